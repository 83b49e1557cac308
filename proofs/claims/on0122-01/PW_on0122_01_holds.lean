import PyProof.Rows.All
import Wide.All
import OpenK.AllK
import Wide.FinOn
import PySem.Challenge.RW_on0122_01
set_option Elab.async false
set_option maxRecDepth 100000
set_option compiler.extract_closed false
set_option maxHeartbeats 8000000
namespace Mine
open PySem PySem.W PyProof.Rows
theorem ahead {G : Prop} {p q : Program} {loose : List PySem.Str} {Xt : Shared → Bool} {α : Type} {Yf : Shared → α} {Ya : World → α} {N : Nat} (_hl : LeftO p q loose Xt Yf Ya N) (k : G) : G := k
theorem aheadT {G T : Prop} (_hc : T) (k : G) : G := k
set_option maxHeartbeats 0 in
theorem said0 : PySem.Challenge.rw_on0122_01.wellSaid = true := by
  repeat' (first | with_reducible refine look_both ?_ ?_ | delta OpenLaw.wellSaid)
  all_goals ((try simp only [PySem.W.Fast.te17960256430627541270, PySem.W.Fast.te8326940854005059898, PySem.W.Fast.te17119622794617984870, PySem.W.Fast.named_eq, PySem.W.Fast.te8179353310426384613, PySem.W.Fast.te9558739934217749035, PySem.W.Fast.te16286561074155671207]); decide +kernel)
theorem pickT {α : Type} {b : Bool} {x y : Option α} (h : b = true) : (match (generalizing := false) b with | true => x | false => y) = x := by
  subst h
  rfl
theorem leftOf {p q : Program} {loose mods : List PySem.Str} {Xt : Shared → Bool} {α : Type} {Yf : Shared → α} {Ya : World → α} {N : Nat} {g0 : Bool} {H₀ : Params → Heap} {gs₀ : Array GenState} {d₀ : Drawn} {k₀ : Nat} {T : World → OsState → Option Shared} {K : World → OsState → Shared → Option Shared} {Z : World → OsState → Shared → Bool}
    (open_ : ∀ w : World, (fencedOpening treeTable p w N).map (fun s => (s.heap, s.gens, s.drawn, s.toks)) = some (H₀ w.params, gs₀, d₀, k₀))
    (top : ∀ (w : World) (os : OsState), topFrom treeTable p w N ⟨H₀ w.params, gs₀, d₀, k₀, os⟩ = (T w os).bind (K w os))
    (rest : ∀ (w : World) (os : OsState) (s : Shared), Z w os s = true → K w os s = some s)
    (run : ∀ (w : World) (os : OsState), (T w os).map (fun s => (Z w os s, openSeen q loose mods Xt g0 s, Yf s)) = some (true, openGood q loose, Ya w)) (w : World) :
    (openEnds treeTable p w N).map (fun s => (openSeen q loose mods Xt g0 s, Yf s)) = some (openGood q loose, Ya w) := by
  obtain ⟨⟨h, gs, d, k, os⟩, e, e'⟩ := Option.map_eq_some_iff.mp (open_ w)
  simp only [Prod.mk.injEq] at e'
  obtain ⟨rfl, rfl, rfl, rfl⟩ := e'
  obtain ⟨s, r, r'⟩ := Option.map_eq_some_iff.mp (run w os)
  obtain ⟨l1, l2, l3⟩ : _ ∧ _ ∧ _ := by simpa only [Prod.mk.injEq] using r'
  unfold openEnds
  rw [e]
  show (topFrom treeTable p w N _).map _ = _
  rw [top w os, r]
  show (K w os s).map _ = _
  rw [rest w os s l1]
  exact congrArg some (Prod.ext l2 l3)
theorem topRun_at {tb : String → Option Builtin} {p : Program} {w : World} {m m' : Nat} {a a' : Option Value} {N : Nat} {s : Shared} {t : Thread} {k : Shared → Option Shared} (hm : m = m') (ha : a = a') :
    (topRun tb p w m a N s t).bind k = (topRun tb p w m' a' N s t).bind k := by rw [hm, ha]
set_option maxHeartbeats 0 in
theorem openIt : ∀ w : World,
          Option.map (fun s => (s.heap, s.gens, s.drawn, s.toks)) (fencedOpening treeTable PySem.Challenge.rw_on0122_01.row.prog w 3526) =
            some (boot_heap w.params, { toList := [] }, boot_drawn, boot_toks) := boot_open (by kernel_rfl) (by decide +kernel) (fun s => by kernel_rfl)
noncomputable def runT (tb : String → Option Builtin) (p : Program) (w : World) (n₀ : Nat) (ann : Option Value) : Nat → SharedT → Thread → Option SharedT
  | 0, _, _ => none
  | n + 1, s, t => match through t with
    | true => some s
    | false => match stepOk n₀ ann t with
      | false => none
      | true => match PySem.W.Fast.tw10156331382660048174 (PySem.W.Fast.tw11892475500146522536 tb) p w s t with
        | some (s', t') => runT tb p w n₀ ann n s' t'
        | none => none
theorem runT_of {tb : String → Option Builtin} {p : Program} {w : World} {m : Nat} {ann : Option Value} (n : Nat) : ∀ (s s' : SharedT) (t : Thread), runT tb p w m ann n s t = some s' → topRun tb p w m ann n s.abs t = some s'.abs := by
  induction n with
  | zero => exact fun _ _ _ h => nomatch h
  | succ n ih =>
    intro s s' t h
    rw [runT] at h
    rw [topRun]
    split at h
    · rename_i e
      rw [e]
      exact congrArg (fun x => some x.abs) (Option.some.inj h)
    · rename_i e
      rw [e]
      split at h
      · exact nomatch h
      · rename_i e2
        rw [e2]
        split at h
        · rename_i s2 t2 e3
          rw [← PySem.W.Fast.te10156331382660048174, ← PySem.W.Fast.te11892475500146522536] at e3
          simp only [stepT_spec e3]
          exact ih _ _ _ h
        · exact nomatch h
def insAll : BT → Nat → List Obj → BT
  | t, _, [] => t
  | t, n, o :: l => insAll (t.ins n o) (n + 1) l
noncomputable def bootT (P : Params) : BT := insAll .nil 0 (boot_heap P).objs.toList
set_option maxHeartbeats 0 in
theorem bootT_abs (P : Params) : absHeap (bootT P) 11 (boot_heap P).life = boot_heap P := by kernel_rfl
theorem tup5 {α β γ δ ε : Type} {x y : α × β × γ × δ × ε} (h : (x.1, x.2.1, x.2.2.1, x.2.2.2.1) = (y.1, y.2.1, y.2.2.1, y.2.2.2.1)) (k : x.2.2.2.2 = y.2.2.2.2) : x = y := by
  obtain ⟨a, b, c, d, e⟩ := x
  obtain ⟨a', b', c', d', e'⟩ := y
  simp only [Prod.mk.injEq] at h k ⊢
  exact ⟨h.1, h.2.1, h.2.2.1, h.2.2.2, k⟩
theorem leftT {p q : Program} {loose mods : List PySem.Str} {Xt : Shared → Bool} {α : Type} {Yf : Shared → α} {Ya : World → α} {N : Nat} {g0 : Bool} {K : World → OsState → Shared → Option Shared} {Z : World → OsState → Shared → Bool}
    (open_ : ∀ w : World, (fencedOpening treeTable p w N).map (fun s => (s.heap, s.gens, s.drawn, s.toks)) = some (boot_heap w.params, Array.mk [], boot_drawn, boot_toks))
    (top : ∀ (w : World) (os : OsState), topFrom treeTable p w N ⟨boot_heap w.params, Array.mk [], boot_drawn, boot_toks, os⟩ = (topRun treeTable p w 11 (some (.ref 6)) N ⟨boot_heap w.params, Array.mk [], boot_drawn, boot_toks, os⟩ (topStub p)).bind (K w os))
    (rest : ∀ (w : World) (os : OsState) (s : Shared), Z w os s = true → K w os s = some s)
    (runA : ∀ (w : World) (os : OsState), (runT PySem.W.Fast.tw14364793385576792824 p w 11 (some (.ref 6)) N ⟨bootT w.params, 11, (boot_heap w.params).life, Array.mk [], boot_drawn, boot_toks, os⟩ (topStub p)).map (fun s => ((PySem.W.Fast.tw4187177175401517315 q loose mods Xt g0 s.abs).1, (PySem.W.Fast.tw4187177175401517315 q loose mods Xt g0 s.abs).2.1, (PySem.W.Fast.tw4187177175401517315 q loose mods Xt g0 s.abs).2.2.1, (PySem.W.Fast.tw4187177175401517315 q loose mods Xt g0 s.abs).2.2.2.1)) = some ((openGood q loose).1, (openGood q loose).2.1, (openGood q loose).2.2.1, (openGood q loose).2.2.2.1))
    (runB : ∀ (w : World) (os : OsState), (runT PySem.W.Fast.tw14364793385576792824 p w 11 (some (.ref 6)) N ⟨bootT w.params, 11, (boot_heap w.params).life, Array.mk [], boot_drawn, boot_toks, os⟩ (topStub p)).map (fun s => (PySem.W.Fast.tw4187177175401517315 q loose mods Xt g0 s.abs).2.2.2.2) = some (openGood q loose).2.2.2.2)
    (runC : ∀ (w : World) (os : OsState), (runT PySem.W.Fast.tw14364793385576792824 p w 11 (some (.ref 6)) N ⟨bootT w.params, 11, (boot_heap w.params).life, Array.mk [], boot_drawn, boot_toks, os⟩ (topStub p)).map (fun s => (Z w os s.abs, Yf s.abs)) = some (true, Ya w)) (w : World) :
    (openEnds treeTable p w N).map (fun s => (openSeen q loose mods Xt g0 s, Yf s)) = some (openGood q loose, Ya w) :=
  leftOf open_ top rest (fun w os => by
    obtain ⟨s, r, ra⟩ := Option.map_eq_some_iff.mp (runA w os)
    have rb := runB w os
    have rc := runC w os
    rw [r] at rb rc
    rw [← PySem.W.Fast.te4187177175401517315] at ra rb
    rw [← PySem.W.Fast.te14364793385576792824] at r
    have r2 := runT_of _ _ _ _ r
    rw [show (SharedT.mk (bootT w.params) 11 (boot_heap w.params).life (Array.mk []) boot_drawn boot_toks os).abs = ⟨boot_heap w.params, Array.mk [], boot_drawn, boot_toks, os⟩ from congrArg (fun h => Shared.mk h (Array.mk []) boot_drawn boot_toks os) (bootT_abs w.params)] at r2
    rw [r2]
    obtain ⟨c1, c2⟩ := Prod.mk.inj (Option.some.inj rc)
    exact congrArg some (Prod.ext c1 (Prod.ext (tup5 ra (Option.some.inj rb)) c2))) w
set_option maxHeartbeats 0 in
def hdS : (L : Prop) ×' (T : Prop) ×' (L → T → PySem.Challenge.rw_on0122_01.Holds) :=
  ⟨_, _, fun left walk => by
    w_on
    refine holds_law said0 fun said => ?_
    apply ahead ?hl
    apply aheadT ?hc
    focus k_head
    case hc => exact walk
    case hw => w_witness2
    case hl => exact left⟩
set_option maxHeartbeats 0 in
noncomputable def hdW : (A : Prop) ×' (B : Prop) ×' (C : Prop) ×' (A → B → C → hdS.1) :=
  ⟨_, _, _, fun a b c => by
    show LeftO _ _ _ _ _ _ _ _
    apply leftT openIt ?top ?rest ?a ?b ?c
    case top =>
      intro w os
      unfold topFrom
      refine (pickT (by kernel_rfl)).trans ?_
      exact topRun_at (by kernel_rfl) (by kernel_rfl)
    case rest =>
      intro w os s z
      exact pickT z
    case a => exact a
    case b => exact b
    case c => exact c⟩
set_option maxHeartbeats 0 in
theorem hdA : hdW.1 := by
  delta hdW
  intro w os
  kernel_rfl
set_option maxHeartbeats 0 in
theorem hdB : hdW.2.1 := by
  delta hdW
  intro w os
  kernel_rfl
set_option maxHeartbeats 0 in
theorem hdC : hdW.2.2.1 := by
  delta hdW
  intro w os
  kernel_rfl
theorem hdL : hdS.1 := hdW.2.2.2 hdA hdB hdC
theorem hd (walk : hdS.2.1) : PySem.Challenge.rw_on0122_01.Holds := hdS.2.2 hdL walk
open PySem PySem.W PySem.Calls PyProof.Rows PySem.Spec

abbrev Led := List (Addr × Obj)

/-- what stands around a call: the frame that calls, its ground, the ledger -/
structure At (w : World) (mean : ExcName → Option Value) (mg mb : Str → Option Value) (A₀ : Around) (base h₀ : Heap) (outer : List Env) (L : Addr) (m : Str → Option Value) (env : Env) (pre : Led) (h : Heap) : Prop where
  B : Below A₀ base outer h₀
  F : Fr h₀ L h m
  X : (hdS.heap_1 w.params).In h₀
  N : News h₀ L h pre
  T : Top hdS.view_1 (looseW hdS.view_1 [Str.ofString "check_target", Str.ofString "check_target_name"]) mean mg mb h₀
  fr : env.frame = some L
  kd : env.scope.kind = .function

/-- the contract of a call -/
def Does (w : World) (f : Addr) (cost : Nat) (vs : List Value) (pre : Led) (Post : Value → Led → Prop) : Prop :=
  ∀ (dp un : Nat) (gd : Option (List Code)) (env : Env) (outer : List Env) (A₀ : Around) (base h₀ : Heap) (L : Addr) (m : Str → Option Value) (mean : ExcName → Option Value) (mg mb : Str → Option Value) (s : Shared) (Q E : Value → Shared → Prop),
    At w mean mg mb A₀ base h₀ outer L m env pre s.heap → dp + cost < recursionLimit → un + 8 * cost < cLine →
    (∀ r post h' tk', Fr h₀ L h' m → News h₀ L h' post → Post r post → Q r { s with heap := h', toks := tk' }) →
    wpAny (model PySem.Challenge.rw_on0122_01.row.prog w) { handled := none, depth := dp, frames := some (env :: outer), guards := gd, units := un } (call (.ref f) vs) Q E s

theorem frag_on : (hdS.heap_1 = hdS.heap_1 ∧ PySem.Challenge.rw_on0122_01 = PySem.Challenge.rw_on0122_01) := by
  w_top off
  k_fill
  exact ⟨rfl, rfl⟩
theorem forgetT {α : Type} {M : Model} {A : Around} {m : Sem α} {Q : α → Shared → Prop} {E : Value → Shared → Prop} {h : Heap} {g : Array GenState} {d : Drawn} {t : Nat} {o : OsState} (k : ∀ tk, wpAny M A m Q E (Shared.mk h g d tk o)) : wpAny M A m Q E (Shared.mk h g d t o) := k t
def Fresh (x : Addr) (a tl : Led) : Prop := ∀ p ∈ tl, @LT.lt Nat _ x p.1 ∧ ∀ q ∈ a, @LT.lt Nat _ q.1 p.1
theorem fresh_nil {x : Addr} {a : Led} : Fresh x a [] := fun _ h => nomatch h
theorem Fresh.weak {x : Addr} {a b tl : Led} (h : Fresh x a tl) (hs : ∀ p ∈ b, p ∈ a) : Fresh x b tl := fun p hp => ⟨(h p hp).1, fun q hq => (h p hp).2 q (hs q hq)⟩
theorem Fresh.append {x : Addr} {a t u : Led} (h : Fresh x a t) (k : Fresh x a u) : Fresh x a (t ++ u) := fun p hp => (List.mem_append.mp hp).elim (h p) (k p)
abbrev Off (x : Addr) (l : Led) : Prop := ∀ p ∈ l, p.1 ≠ x
theorem fresh_off {x b : Addr} {o : Obj} {a tl : Led} (h : Fresh x a tl) (hm : (b, o) ∈ a) : Off b tl := fun p hp => Nat.ne_of_gt ((h p hp).2 _ hm)
def Above (rest tl : Led) : Prop := ∀ q ∈ rest, ∀ p ∈ tl, @LT.lt Nat _ q.1 p.1
theorem above_nil {r : Led} : Above r [] := fun _ _ _ h => nomatch h
theorem Above.weak {r r' t : Led} (h : Above r t) (hs : ∀ p ∈ r', p ∈ r) : Above r' t := fun q hq p hp => h q (hs q hq) p hp
theorem Above.append {r t u : Led} (h : Above r t) (k : Above r u) : Above r (t ++ u) := fun q hq p hp => (List.mem_append.mp hp).elim (h q hq p) (k q hq p)
theorem above_offm {b : Addr} {o : Obj} {led tl : Led} (h : Above led tl) (hm : (b, o) ∈ led) : Off b tl := fun p hp => Nat.ne_of_gt (h _ hm p hp)
def Hid {α : Type} (Q Q' : α → Shared → Prop) : Prop := ∀ v t, Q v t → Q' v t
theorem Hid.use {α : Type} {Q Q' : α → Shared → Prop} {v : α} {t : Shared} (h : Hid Q Q') (k : Q v t) : Q' v t := h v t k
theorem hideQ {α : Type} {M : Model} {A : Around} {m : Sem α} {Q : α → Shared → Prop} {E : Value → Shared → Prop} {s : Shared} (k : ∀ Q', Hid Q Q' → wpAny M A m Q' E s) : wpAny M A m Q E s := k Q fun _ _ h => h
theorem hidden_test {α : Type} {M : Model} {A : Around} {m : Sem α} {Q Q0 : α → Shared → Prop} {E : Value → Shared → Prop} {s : Shared} (_h : Hid Q0 Q) (k : wpAny M A m Q E s) : wpAny M A m Q E s := k
local macro_rules | `(tactic| tb_start) => `(tactic| first | ktd_sub | (intro p9 h9; (try simp only [List.mem_append, List.mem_cons, List.not_mem_nil, or_false, false_or, or_assoc] at h9 ⊢); first | exact h9 | ((repeat' (refine Or.elim h9 (fun h9 => ?_) (fun h9 => ?_))) <;> (simp only [h9, true_or, or_true]; done))) | (intro p9 h9; (repeat' (first | (refine (List.mem_append.mp h9).elim (fun h9 => ?_) (fun h9 => ?_)) | (refine (List.mem_cons.mp h9).elim (fun h9 => ?_) (fun h9 => ?_)))); all_goals (first | (solve_by_elim (maxDepth := 14) only [List.mem_cons_of_mem, List.mem_append_left, List.mem_append_right, *]) | (subst h9; solve_by_elim (maxDepth := 14) only [List.mem_cons_self, List.mem_cons_of_mem, List.mem_append_left, List.mem_append_right, *]))))
local macro_rules | `(tactic| k_all) => `(tactic| first | with_reducible assumption | (refine List.forall_mem_append.mpr ⟨?_, ?_⟩ <;> k_all) | exact fresh_off (by assumption) (by k_mem) | exact above_offm (by assumption) (by k_mem) | fail "k_all")
local macro_rules | `(tactic| ktr_enter) => `(tactic| first | (refine' code_def ?k1 ?k2 ?k3 ?k4 ?k5 ?kA ?kF ?kK ?k6 ?k7 ?k8 ?k9 ?kB ?_ ?c2 ?c3 ?c4 ?c5; (case kA => exact rfl); (case kF => first | exact rfl | assumption); (case kK => first | exact rfl | assumption); (case k1 => k_asm); (case k2 => k_asm); (case k3 => k_asm); (case k4 => k_asm); (case k5 => k_asm); (case k6 => k_is); (case k7 => k_is); (case k8 => ktr_room); (case k9 => first | exact BindsTo.of_eq rfl | exact binds_K (by k_in) rfl (by k_is) rfl rfl rfl); (case c5 => decide); (case kB => exact locs rfl); (case c2 => exact rfl); (case c3 => exact rfl); (case c4 => exact rfl); k_whole; intro g' L' h' FG' F' N' B' X' T'; (try dsimp only); (try k_fold)) | (refine' code_defC ?k1 ?k2 ?k3 ?k4 ?k5 ?kA ?kF ?kK ?k6 ?k7 ?k8 ?k9 ?kB ?kD ?_ ?c2 ?c3 ?c4; (case kA => exact rfl); (case kF => first | exact rfl | assumption); (case kK => first | exact rfl | assumption); (case k1 => k_asm); (case k2 => k_asm); (case k3 => k_asm); (case k4 => k_asm); (case k5 => k_asm); (case k6 => k_is); (case k7 => k_is); (case k8 => ktr_room); (case k9 => first | exact BindsTo.of_eq rfl | exact binds_K (by k_in) rfl (by k_is) rfl rfl rfl); (case kB => exact rfl); (case kD => decide +kernel); (case c2 => exact rfl); (case c3 => exact rfl); (case c4 => exact rfl); k_whole; intro g' L' h' tk' cells' FG' F' N' Y' B' X' T' l1; (try k_lt l1); k_cells Y'; (try simp only [List.cons_append, List.nil_append] at N'); (try dsimp only); (try k_fold)))
local macro_rules | `(tactic| k_enter) => `(tactic| ktr_enter)
local macro_rules | `(tactic| tb_rel) => `(tactic| first | exact above_nil | exact fresh_nil | (refine Fresh.append ?_ ?_ <;> tb_rel) | exact Fresh.weak (by assumption) (by tb_start) | (refine Above.append ?_ ?_ <;> tb_rel) | exact Above.weak (by assumption) (by tb_start))
section
open PySem PySem.W PySem.Calls PyProof.Rows PySem.Spec
theorem frag_on2 : (hdS.heap_1 = hdS.heap_1 ∧ PySem.Challenge.rw_on0122_01 = PySem.Challenge.rw_on0122_01) := by
  k_fill
  exact ⟨rfl, rfl⟩

local macro_rules | `(tactic| k_mem) => `(tactic| first | ktr_member | (refine List.mem_cons_of_mem _ ?_; k_mem))

theorem len_cells {prog : Program} {w : World} {A : Around} {E : Value → Shared → Prop} {s : Shared} {h₀ : Heap} {L D : Addr} {news : List (Addr × Obj)} {vs : List Value} {ns : List Int} {n : Nat} {Q : Value → Shared → Prop}
    (N : News h₀ L s.heap news) (hm : (D, listOf vs.toArray n) ∈ news) (hi : IntsAre vs ns) (hfit : ns.length < 2 ^ 62) (h : Q (.int (ns.length : Nat) (s.toks + 1)) { s with toks := s.toks + 1 + 1 }) :
    wpAny (model prog w) A (call (.builtin "len") [.ref D]) Q E s := len_ints_fit (PySem.IsL.isList (n := n) (N _ hm).1) hi hfit h

abbrev jarO (c : Addr) (a b d : Int) (ta tb td : Tok) (n : Nat) : Obj := listOf [Value.int a ta, Value.int b tb, Value.ref c, Value.int d td].toArray n

set_option maxHeartbeats 4000000 in
theorem spot0 (w : World) (j : Addr) (n : Nat) (x0 x1 x2 : Value) (d : Int) (td : Tok) (rest : Led) (hj : ∀ p ∈ rest, p.1 ≠ j) :
    Does w 254 1 [.ref j] ((j, listOf [x0, x1, x2, .int d td].toArray n) :: rest) (fun r post => ∃ d' t1 t2, r = .int d' t1 ∧ post = ((j, listOf [x0, x1, x2, .int d' t2].toArray n) :: rest)) := by
  intro dp un gd env outer A₀ base h₀ L m mean mg mb s Q E HA hd hu hret
  obtain ⟨B, F, X, N, T, fr, kd⟩ := HA
  refine wpAny_call ?_
  k_dflt ktr_enter
  (repeat' (first | ((with_reducible show wpAny _ _ _ _ _ (Shared.mk _ _ _ (_ + 1 + 1) _)); (refine forgetT ?_); (intro tk9); (try dsimp only)) | ((with_reducible show wpAny _ _ (PySem.exec _ _) _ _ _); ((fail_if_success (refine' hidden_test ?hQ ?_; (case hQ => with_reducible assumption))); (refine' hideQ ?_); (intro Q9 hQ9))) | (k_unfold; (try dsimp only)) | (k_end; wrow_close) | ((with_reducible show wpAny _ _ (call _ _ _) _ _ _); (first | (k_here; (with_reducible show wpAny _ _ (call (Value.builtin "len") [Value.ref _]) _ _ _); refine' len_cells ?k1 ?k2 ?k3 ?k4 ?_; (case k1 => k_asm); (case k2 => k_mem); (case k3 => assumption); (case k4 => omega)))) | ((with_reducible show wpAny _ _ (binaryOp PySem.Operator.FloorDiv _ _) _ _ _); (refine floordiv_int (by omega) ?_)) | walk1 | ((refine' Hid.use ?hQ ?_); (case hQ => with_reducible assumption); (try dsimp only)) | dsimp only | (leave1; (try dsimp only)) | fail "no step"))
  exact hret _ _ _ _ (by assumption) (by assumption) ⟨_, _, _, rfl, rfl⟩

set_option maxHeartbeats 4000000 in
theorem draw0 (w : World) (j c : Addr) (n k : Nat) (a b d : Int) (ta tb td tc : Tok) (vs : List Value) (ns : List Int) (count : Int) (rest : Led) (hj : ∀ p ∈ rest, p.1 ≠ j)
    (hc : (c, listOf vs.toArray k) ∈ rest) (hi : IntsAre vs ns) (hn : 0 < ns.length) (hn2 : ns.length ≤ 40) (hb0 : 0 ≤ b) (hb : b ≤ 1000000000) (hcount : 0 < count) (hcount2 : count ≤ 10) :
    Does w 247 1 [.ref j, .int count tc] ((j, jarO c a b d ta tb td n) :: rest) (fun r post => ∃ g t1 a' b' ta' tb', r = .int g t1 ∧ 0 ≤ g ∧ g < count ∧ post = ((j, jarO c a' b' d ta' tb' td n) :: rest) ∧ b' ≤ b + 1 ∧ 0 ≤ b') := by
  intro dp un gd env outer A₀ base h₀ L m mean mg mb s Q E HA hd hu hret
  obtain ⟨B, F, X, N, T, fr, kd⟩ := HA
  refine wpAny_call ?_
  k_dflt ktr_enter
  (repeat' (first | ((with_reducible show wpAny _ _ _ _ _ (Shared.mk _ _ _ (_ + 1 + 1) _)); (refine forgetT ?_); (intro tk9); (try dsimp only)) | ((with_reducible show wpAny _ _ (PySem.exec _ _) _ _ _); ((fail_if_success (refine' hidden_test ?hQ ?_; (case hQ => with_reducible assumption))); (refine' hideQ ?_); (intro Q9 hQ9))) | (k_unfold; (try dsimp only)) | (k_end; wrow_close) | ((with_reducible show wpAny _ _ (call _ _ _) _ _ _); (first | (k_here; (with_reducible show wpAny _ _ (call (Value.builtin "len") [Value.ref _]) _ _ _); refine' len_cells ?k1 ?k2 ?k3 ?k4 ?_; (case k1 => k_asm); (case k2 => k_mem); (case k3 => assumption); (case k4 => omega)))) | ((with_reducible show wpAny _ _ (binaryOp PySem.Operator.FloorDiv _ _) _ _ _); (refine floordiv_int (by omega) ?_)) | walk1 | ((refine' Hid.use ?hQ ?_); (case hQ => with_reducible assumption); (try dsimp only)) | dsimp only | (leave1; (try dsimp only)) | fail "no step"))
  all_goals first
    | exact hret _ _ _ _ (by assumption) (by assumption) ⟨_, _, _, _, _, _, rfl, fmod_lo _ hcount, fmod_hi _ hcount, rfl, by omega, by omega⟩
    | exact hret _ _ _ _ (by assumption) (by assumption) ⟨_, _, _, _, _, _, rfl, Int.le_refl 0, hcount, rfl, by omega, by omega⟩
open PySem PySem.W PySem.Calls PyProof.Rows PySem.Spec

/-- the entry of x, taken out of a ledger -/
inductive Pick (x : Addr) (o : Obj) : Led → Led → Prop
  | head {r} : Pick x o ((x, o) :: r) r
  | tail {p r r'} : Pick x o r r' → Pick x o (p :: r) (p :: r')
theorem Pick.sub {x : Addr} {o : Obj} {led rest : Led} (h : Pick x o led rest) : ∀ p ∈ (x, o) :: rest, p ∈ led := by
  induction h with
  | head => exact fun _ h => h
  | tail _ ih =>
    intro p hp
    rcases List.mem_cons.mp hp with rfl | hp
    · exact .tail _ (ih _ (.head _))
    · rcases List.mem_cons.mp hp with rfl | hp
      · exact .head _
      · exact .tail _ (ih _ (.tail _ hp))

theorem News.sub {h₀ h : Heap} {L : Addr} {a b : Led} (N : News h₀ L h a) (hs : ∀ p ∈ b, p ∈ a) : News h₀ L h b := fun p hp => N p (hs p hp)

/-- what is new lies above -/
theorem Fresh.cons {x D : Addr} {o : Obj} {a t : Led} (hx : @LT.lt Nat _ x D) (ha : AllLt D a) (h : Fresh x a t) : Fresh x a ((D, o) :: t) := fun p hp => by
  rcases List.mem_cons.mp hp with rfl | hp
  · exact ⟨hx, fun q hq => ktn_ltOf ha q hq⟩
  · exact h p hp
theorem allLt_left {D : Addr} : ∀ {a b : Led}, AllLt D (a ++ b) → AllLt D a
  | [], _, _ => trivial
  | _ :: _, _, h => ⟨h.1, allLt_left h.2⟩

theorem off2 {D : Addr} {a b : Led} (h : AllLt D (a ++ b)) : Off D a ∧ Off D b :=
  ⟨fun p hp => Nat.ne_of_lt (ktn_ltOf h p (List.mem_append.mpr (.inl hp))), fun p hp => Nat.ne_of_lt (ktn_ltOf h p (List.mem_append.mpr (.inr hp)))⟩

/-- a call that turns the one object at x, and makes tl -/
def MDoes (w : World) (f : Addr) (cost : Nat) (args : List Value) (x : Addr) (rest : Led) (Pre : Obj → Prop) (Post : Value → Obj → Led → Prop) : Prop :=
  ∀ o, Pre o → Off x rest → Does w f cost args ((x, o) :: rest) (fun r post => ∃ o' tl, post = (x, o') :: (rest ++ tl) ∧ Fresh x rest tl ∧ Post r o' tl)

theorem MDoes.use {w : World} {f : Addr} {cost : Nat} {args : List Value} {x : Addr} {rest led : Led} {Pre : Obj → Prop} {Post : Value → Obj → Led → Prop} {o : Obj}
    {dp un : Nat} {gd : Option (List Code)} {env : Env} {outer : List Env} {A₀ : Around} {base h₀ : Heap} {L : Addr} {m : Str → Option Value} {mean : ExcName → Option Value} {mg mb : Str → Option Value} {s : Shared} {Q E : Value → Shared → Prop}
    (B : Below A₀ base outer h₀) (F : Fr h₀ L s.heap m) (X : (hdS.heap_1 w.params).In h₀) (N : News h₀ L s.heap led) (T : Top hdS.view_1 (looseW hdS.view_1 [Str.ofString "check_target", Str.ofString "check_target_name"]) mean mg mb h₀)
    (fr : env.frame = some L) (kd : env.scope.kind = .function) (P : Pick x o led rest) (D : MDoes w f cost args x rest Pre Post) (hp : Pre o) (ho : Off x rest) (hdp : dp + cost < recursionLimit) (hun : un + 8 * cost < cLine)
    (ret : ∀ r o' tl h' tk', Fr h₀ L h' m → News h₀ L h' ((x, o') :: (rest ++ tl)) → Fresh x rest tl → Off x tl → Post r o' tl → Q r { s with heap := h', toks := tk' }) :
    wpAny (model PySem.Challenge.rw_on0122_01.row.prog w) { handled := none, depth := dp, frames := some (env :: outer), guards := gd, units := un } (call (.ref f) args) Q E s :=
  D o hp ho dp un gd env outer A₀ base h₀ L m mean mg mb s Q E ⟨B, F, X, News.sub N P.sub, T, fr, kd⟩ hdp hun
    (fun r post h' tk' F' N' ⟨o', tl, e, hf, hP⟩ => ret r o' tl h' tk' F' (e ▸ N') hf (fun p hp => Nat.ne_of_gt (hf p hp).1) hP)

theorem MDoes.fin {x : Addr} {rest led : Led} {Post : Value → Obj → Led → Prop} {h₀ h' : Heap} {L : Addr} {m : Str → Option Value} {s : Shared} {Q : Value → Shared → Prop} {tk' : Nat} {r : Value}
    (hret : ∀ r post h' tk', Fr h₀ L h' m → News h₀ L h' post → (∃ o' tl, post = (x, o') :: (rest ++ tl) ∧ Fresh x rest tl ∧ Post r o' tl) → Q r { s with heap := h', toks := tk' })
    (F' : Fr h₀ L h' m) (N' : News h₀ L h' led) (o' : Obj) (tl : Led) (hs : ∀ p ∈ (x, o') :: (rest ++ tl), p ∈ led) (hf : Fresh x rest tl) (hP : Post r o' tl) : Q r { s with heap := h', toks := tk' } :=
  hret _ _ _ _ F' (News.sub N' hs) ⟨o', tl, rfl, hf, hP⟩

theorem MDoes.fin1 {x D : Addr} {oD : Obj} {rest led : Led} {Post : Value → Obj → Led → Prop} {h₀ h' : Heap} {L : Addr} {m : Str → Option Value} {s : Shared} {Q : Value → Shared → Prop} {tk' : Nat}
    (hret : ∀ r post h' tk', Fr h₀ L h' m → News h₀ L h' post → (∃ o' tl, post = (x, o') :: (rest ++ tl) ∧ Fresh x rest tl ∧ Post r o' tl) → Q r { s with heap := h', toks := tk' })
    (F' : Fr h₀ L h' m) (N' : News h₀ L h' ((D, oD) :: led)) (o' : Obj) {tl : Led} (hs : ∀ p ∈ (x, o') :: (rest ++ tl), p ∈ led) (hx : @LT.lt Nat _ x D) (hr : AllLt D (rest ++ tl)) (hf : Fresh x rest tl) (hP : Post (.ref D) o' ((D, oD) :: tl)) : Q (.ref D) { s with heap := h', toks := tk' } :=
  MDoes.fin hret F' N' o' ((D, oD) :: tl) (fun p hp => by
    rcases List.mem_cons.mp hp with rfl | hp
    · exact .tail _ (hs _ (.head _))
    · rcases List.mem_append.mp hp with hp | hp
      · exact .tail _ (hs _ (.tail _ (List.mem_append.mpr (.inl hp))))
      · rcases List.mem_cons.mp hp with rfl | hp
        · exact .head _
        · exact .tail _ (hs _ (.tail _ (List.mem_append.mpr (.inr hp))))) (Fresh.cons hx (allLt_left hr) hf) hP

theorem MDoes.fin2 {x D D2 : Addr} {oD oD2 : Obj} {rest led : Led} {Post : Value → Obj → Led → Prop} {h₀ h' : Heap} {L : Addr} {m : Str → Option Value} {s : Shared} {Q : Value → Shared → Prop} {tk' : Nat}
    (hret : ∀ r post h' tk', Fr h₀ L h' m → News h₀ L h' post → (∃ o' tl, post = (x, o') :: (rest ++ tl) ∧ Fresh x rest tl ∧ Post r o' tl) → Q r { s with heap := h', toks := tk' })
    (F' : Fr h₀ L h' m) (N' : News h₀ L h' ((D, oD) :: (D2, oD2) :: led)) (o' : Obj) {tl : Led} (hs : ∀ p ∈ (x, o') :: (rest ++ tl), p ∈ led) (hx : @LT.lt Nat _ x D) (hr : AllLt D (rest ++ tl)) (hx2 : @LT.lt Nat _ x D2) (hr2 : AllLt D2 (rest ++ tl)) (hf : Fresh x rest tl)
    (hP : Post (.ref D) o' ((D, oD) :: (D2, oD2) :: tl)) : Q (.ref D) { s with heap := h', toks := tk' } :=
  MDoes.fin hret F' N' o' ((D, oD) :: (D2, oD2) :: tl) (fun p hp => by
    rcases List.mem_cons.mp hp with rfl | hp
    · exact .tail _ (.tail _ (hs _ (.head _)))
    · rcases List.mem_append.mp hp with hp | hp
      · exact .tail _ (.tail _ (hs _ (.tail _ (List.mem_append.mpr (.inl hp)))))
      · rcases List.mem_cons.mp hp with rfl | hp
        · exact .head _
        · rcases List.mem_cons.mp hp with rfl | hp
          · exact .tail _ (.head _)
          · exact .tail _ (.tail _ (hs _ (.tail _ (List.mem_append.mpr (.inr hp)))))) (Fresh.cons hx (allLt_left hr) (Fresh.cons hx2 (allLt_left hr2) hf)) hP

/-- the jar of draws at j, g draws within bounds -/
structure Jar (g : Nat) (rest : Led) (o : Obj) : Prop where
  ex : ∃ c a b d ta tb td n vs ns k, o = jarO c a b d ta tb td n ∧ (c, listOf vs.toArray k) ∈ rest ∧ IntsAre vs ns ∧ 0 < ns.length ∧ ns.length ≤ 40 ∧ 0 ≤ b ∧ b + g ≤ 1000000000

theorem Jar.less {g g' : Nat} {R : Led} {o : Obj} (h : Jar g R o) (hg : g' ≤ g) : Jar g' R o := by
  obtain ⟨c, a, b, d, ta, tb, td, n, vs, ns, k, e, hm, hi, h1, h2, h3, h4⟩ := h.ex
  exact ⟨c, a, b, d, ta, tb, td, n, vs, ns, k, e, hm, hi, h1, h2, h3, by omega⟩

theorem draw {w : World} {j : Addr} {g : Nat} {count : Int} {tc : Tok} {rest R : Led} (hR : ∀ p ∈ R, p ∈ rest) (h0 : 0 < count) (h1 : count ≤ 10) (hg : 1 ≤ g) :
    MDoes w 247 1 [.ref j, .int count tc] j rest (Jar g R) (fun r o' tl => tl = [] ∧ Jar (g - 1) R o' ∧ ∃ i t, r = .int i t ∧ 0 ≤ i ∧ i < count) := by
  intro o hJ ho
  obtain ⟨c, a, b, d, ta, tb, td, n, vs, ns, k, e, hm, hi, hl, hl2, hb, hb2⟩ := hJ.ex
  subst e
  intro dp un gd env outer A₀ base h₀ L m mean mg mb s Q E HA hdp hun hret
  refine draw0 w j c n k a b d ta tb td tc vs ns count rest ho (hR _ hm) hi hl hl2 hb (by omega) h0 h1 dp un gd env outer A₀ base h₀ L m mean mg mb s Q E HA hdp hun ?_
  rintro r post h' tk' F' N' ⟨i, t1, a', b', ta', tb', rfl, h0', h1', rfl, hb', hb0'⟩
  exact hret _ _ _ _ F' N' ⟨_, [], by rw [List.append_nil], fresh_nil, rfl, ⟨⟨c, a', b', d, ta', tb', td, n, vs, ns, k, rfl, hm, hi, hl, hl2, hb0', by omega⟩⟩, i, t1, rfl, h0', h1'⟩

theorem spot {w : World} {j : Addr} {g : Nat} {rest R : Led} (hR : ∀ p ∈ R, p ∈ rest) :
    MDoes w 254 1 [.ref j] j rest (Jar g R) (fun r o' tl => tl = [] ∧ Jar g R o' ∧ ∃ i t, r = .int i t) := by
  intro o hJ ho
  obtain ⟨c, a, b, d, ta, tb, td, n, vs, ns, k, e, hm, hi, hl, hl2, hb, hb2⟩ := hJ.ex
  subst e
  intro dp un gd env outer A₀ base h₀ L m mean mg mb s Q E HA hdp hun hret
  refine spot0 w j n (.int a ta) (.int b tb) (.ref c) d td rest ho dp un gd env outer A₀ base h₀ L m mean mg mb s Q E HA hdp hun ?_
  rintro r post h' tk' F' N' ⟨d', t1, t2, rfl, rfl⟩
  exact hret _ _ _ _ F' N' ⟨_, [], by rw [List.append_nil], fresh_nil, rfl, ⟨⟨c, a, b, d', ta, tb, t2, n, vs, ns, k, rfl, hm, hi, hl, hl2, hb, hb2⟩⟩, d', t1, rfl⟩
open PySem PySem.W PySem.Calls PyProof.Rows PySem.Spec

/-- how a turn ends: the frame stands, own is untouched, the word holds of the new ledger -/
def LedEnd (h₀ : Heap) (L : Addr) (own : Led) (J : (Str → Option Value) → Led → Prop) (s₁ s₂ : Shared) : Prop :=
  ∃ h' tk m' led nx, s₂ = { s₁ with heap := h', toks := tk } ∧ Fr h₀ L h' m' ∧ News h₀ L h' led ∧ (∀ p ∈ nx, p ∈ led) ∧ (∀ p ∈ own, p ∈ led) ∧ (∀ p ∈ own, ∀ q ∈ nx, p.1 ≠ q.1) ∧ J m' nx
def LedPost (h₀ : Heap) (L : Addr) (own : Led) (J : (Str → Option Value) → Led → Prop) (s₁ : Shared) (Q : Flow → Shared → Prop) (f : Flow) (s₂ : Shared) : Prop :=
  match f with
  | .ret v => Q (.ret v) s₂
  | .brk => Q .next s₂
  | _ => LedEnd h₀ L own J s₁ s₂

section
variable {prog : Program} {w : World} {A : Around} {s : Shared} {env : Env} {h₀ : Heap}

/-- an iterator at I over n items; what it reads stands in h₀ or in fix -/
structure Iter (prog : Program) (w : World) (A : Around) (h₀ : Heap) (L : Addr) (news fix : Led) (I : Addr) (fp wr : List Addr) (n : Nat) (P : Nat → Value → Prop) (St : Nat → Heap → Prop) (h : Heap) : Prop where
  W : Walks prog w A I fp wr n P St
  st : St 0 h
  lt : ∀ b ∈ fp, b < h.objs.size
  nL : L ∉ fp
  new : ∀ b ∈ wr, h₀.get? b = none
  has : ∀ i h, St i h → ∀ b ∈ wr, ∃ o, h.get? b = some o
  fixed : ∀ b ∈ fp, b ∉ wr → (∃ o, h₀.get? b = some o) ∨ ∃ o, (b, o) ∈ fix
  off : ∀ p ∈ news, p.1 ∉ wr

theorem Iter.step {L I : Addr} {news fix : Led} {fp wr : List Addr} {n : Nat} {P : Nat → Value → Prop} {St : Nat → Heap → Prop} {h h₁ h₂ : Heap} {m m' : Str → Option Value} {led : Led} {i : Nat}
    (x : Iter prog w A h₀ L news fix I fp wr n P St h) (st : St i h₁) (F₁ : Fr h₀ L h₁ m) (F₂ : Fr h₀ L h₂ m') (N₁ : News h₀ L h₁ fix) (N₂ : News h₀ L h₂ led) (hf : ∀ p ∈ fix, p ∈ led) (ho : ∀ p ∈ ownOf h₀ wr h₁, p ∈ led) : St i h₂ := by
  refine x.W.frame _ _ _ st fun b hb o e => ?_
  by_cases hw : b ∈ wr
  · exact (N₂ _ (ho _ (mem_ownOf hw (x.new b hw) e))).1
  · rcases x.fixed b hb hw with ⟨o', e'⟩ | ⟨o', e'⟩
    · have h1 := F₁.keep b o' e'
      rw [e] at h1
      cases h1
      exact F₂.keep b o e'
    · have h1 := (N₁ _ e').1
      rw [e] at h1
      cases h1
      exact (N₂ _ (hf _ e')).1

theorem codeAny_forLoop_led {R : Result → Shared → Prop} {target : Expr} {body : List Stmt} {I : Addr} {fp wr : List Addr} {n : Nat} {P : Nat → Value → Prop} {St : Nat → Heap → Prop} {m : Str → Option Value}
    {news fix : Led} (J : Nat → (Str → Option Value) → Led → Prop) (x : Iter prog w A h₀ env.locals news fix I fp wr n P St s.heap)
    (F : Fr h₀ env.locals s.heap m) (N : News h₀ env.locals s.heap news) (hj : J 0 m news) (hfix : ∀ i m' nx, J i m' nx → ∀ p ∈ fix, p ∈ nx)
    (hgo : ∀ i (s' : Shared) v (Q' : Unit → Shared → Prop) E', St i s'.heap → Q' () s' → wpAny (model prog w) A (letOwnedTupleGo target (.ref I) v) Q' E' s')
    (turn : ∀ i v m₁ nx own h tk E', i < n → P i v → J i m₁ nx → (∀ p ∈ own, ∀ q ∈ nx, p.1 ≠ q.1) → Fr h₀ env.locals h m₁ → News h₀ env.locals h (nx ++ own) →
      wpAny (model prog w) A (assign target env v) (fun _ s₂ => wpAny (model prog w) A (execs body env) (LedPost h₀ env.locals own (J (i + 1)) { s with heap := h, toks := tk } fun f s' => R (.ok f) s') E' s₂) E' { s with heap := h, toks := tk })
    (done : ∀ m₁ nx h tk, J n m₁ nx → Fr h₀ env.locals h m₁ → News h₀ env.locals h nx → R (.ok .next) { s with heap := h, toks := tk }) :
    codeAny (model prog w) A (.forLoop target (.ref I) body [] env) R s := by
  have hLw : env.locals ∉ wr := fun h => x.nL (x.W.sub _ h)
  have old : ∀ b o, h₀.get? b = some o → b ∉ wr := fun b o e hb => by rw [x.new b hb] at e; cases e
  refine codeAny_forLoop_any
    (fun k s' => ∃ h' tk m' nx i, s' = { s with heap := h', toks := tk } ∧ St i h' ∧ Fr h₀ env.locals h' m' ∧ News h₀ env.locals h' nx ∧ (∀ p ∈ nx, p.1 ∉ wr) ∧ J i m' nx ∧ i ≤ n ∧ k = n + 1 - i) ?_ (n + 1)
    ⟨s.heap, s.toks, m, news, 0, rfl, x.st, F, N, x.off, hj, Nat.zero_le _, rfl⟩
  rintro k s' ⟨h', tk, m', nx, i, rfl, hst', F', N', hoff, hJ, hi, rfl⟩
  have next : ∀ h₁ : Heap, (∀ b o, b ∉ wr → h'.get? b = some o → h₁.get? b = some o) → Fr h₀ env.locals h₁ m' ∧ News h₀ env.locals h₁ nx := fun h₁ hk₁ =>
    ⟨⟨F'.ns.at' fun o e => hk₁ _ o hLw e, fun b o e => hk₁ b o (old b o e) (F'.keep b o e), F'.above⟩, fun p hp => ⟨hk₁ _ _ (hoff p hp) (N' p hp).1, (N' p hp).2⟩⟩
  by_cases hlt : i < n
  · refine x.W.item i _ _ _ hlt hst' fun v h₁ tk₁ hP hst₁ hk₁ => ?_
    obtain ⟨F₁, N₁⟩ := next h₁ hk₁
    refine hgo (i + 1) _ v _ _ hst₁ ?_
    have hoff₁ : ∀ p ∈ ownOf h₀ wr h₁, ∀ q ∈ nx, p.1 ≠ q.1 := fun p hp q hq e => hoff q hq (e ▸ ownOf_sub p hp)
    have N₁' : News h₀ env.locals h₁ (nx ++ ownOf h₀ wr h₁) := N₁.append (news_ownOf hLw)
    refine wpAny_mono (turn i v m' nx (ownOf h₀ wr h₁) h₁ tk₁ _ hlt hP hJ hoff₁ F₁ N₁') (fun _ s₂ h₂ => wpAny_mono h₂ (fun f s₃ h₃ => ?_) fun _ _ e => e) fun _ _ e => e
    have fin : LedEnd h₀ env.locals (ownOf h₀ wr h₁) (J (i + 1)) { s with heap := h₁, toks := tk₁ } s₃ → ∃ m_1, m_1 < n + 1 - i ∧ ∃ h' tk m' nx i, s₃ = { s with heap := h', toks := tk } ∧ St i h' ∧ Fr h₀ env.locals h' m' ∧ News h₀ env.locals h' nx ∧ (∀ p ∈ nx, p.1 ∉ wr) ∧ J i m' nx ∧ i ≤ n ∧ m_1 = n + 1 - i := by
      rintro ⟨h₃', tk₃, m₂, led, nx₂, rfl, F₃, N₃, hn, ho, hof, hJ₃⟩
      refine ⟨n + 1 - (i + 1), by omega, h₃', tk₃, m₂, nx₂, i + 1, rfl, ?_, F₃, fun p hp => N₃ p (hn p hp), ?_, hJ₃, hlt, rfl⟩
      · exact x.step hst₁ F₁ F₃ (fun p hp => N₁ p (hfix _ _ _ hJ p hp)) N₃ (fun p hp => hn p (hfix _ _ _ hJ₃ p hp)) ho
      · intro p hp hb
        obtain ⟨o, e⟩ := x.has _ _ hst₁ p.1 hb
        exact hof _ (mem_ownOf hb (x.new _ hb) e) p hp rfl
    cases f with
    | ret v => exact h₃
    | brk => exact h₃
    | cont => exact fin h₃
    | next => exact fin h₃
  · have hin : i = n := by omega
    subst hin
    refine x.W.done _ _ _ hst' fun h₁ tk₁ hk₁ => wpAny_execs_nil ?_
    obtain ⟨F₁, N₁⟩ := next h₁ hk₁
    exact done m' nx h₁ tk₁ hJ F₁ N₁

/-- what stands at a loop's head, once its iterator is made -/
def ForAt (prog : Program) (w : World) (A : Around) (h₀ : Heap) (env : Env) (target : Expr) (body : List Stmt) (Q : Flow → Shared → Prop) (it : Value) (s₂ : Shared) : Prop :=
  ∃ (I : Addr) (fp wr : List Addr) (n : Nat) (P : Nat → Value → Prop) (St : Nat → Heap → Prop) (m : Str → Option Value) (news fix : Led) (J : Nat → (Str → Option Value) → Led → Prop),
    it = .ref I ∧ Iter prog w A h₀ env.locals news fix I fp wr n P St s₂.heap ∧ Fr h₀ env.locals s₂.heap m ∧ News h₀ env.locals s₂.heap news ∧ J 0 m news ∧ (∀ i m' nx, J i m' nx → ∀ p ∈ fix, p ∈ nx) ∧
    (∀ i (s' : Shared) v (Q' : Unit → Shared → Prop) E', St i s'.heap → Q' () s' → wpAny (model prog w) A (letOwnedTupleGo target (.ref I) v) Q' E' s') ∧
    (∀ i v m₁ nx own h tk E', i < n → P i v → J i m₁ nx → (∀ p ∈ own, ∀ q ∈ nx, p.1 ≠ q.1) → Fr h₀ env.locals h m₁ → News h₀ env.locals h (nx ++ own) →
      wpAny (model prog w) A (assign target env v) (fun _ s₃ => wpAny (model prog w) A (execs body env) (LedPost h₀ env.locals own (J (i + 1)) { s₂ with heap := h, toks := tk } Q) E' s₃) E' { s₂ with heap := h, toks := tk }) ∧
    (∀ m₁ nx h tk, J n m₁ nx → Fr h₀ env.locals h m₁ → News h₀ env.locals h nx → Q .next { s₂ with heap := h, toks := tk })

theorem For_led {E : Value → Shared → Prop} {Q : Flow → Shared → Prop} {target iter : Expr} {pos : Pos} {body : List Stmt} (h₀ : Heap)
    (h : wpAny (model prog w) A (eval iter env) (fun xv s₁ => wpAny (model prog w) A (pyIter xv) (fun it s₂ => ForAt prog w A h₀ env target body Q it s₂) E s₁) E s)
    (hs : ∀ x, foldedSetIterable iter env x = pure x := by intro _; rfl) :
    wpAny (model prog w) A (exec (.For target iter body [] pos) env) Q E s := by
  refine wpAny_For (wpAny_mono h (fun xv s₁ h₁ => wpAny_mono h₁ (fun it s₂ h₂ => ?_) fun _ _ e => e) fun _ _ e => e) hs
  obtain ⟨I, fp, wr, n, P, St, m, news, fix, J, rfl, x, F, N, hj, hfix, hgo, turn, done⟩ := h₂
  exact codeAny_forLoop_led (R := fun r s' => match r with | .ok f => Q f s' | .error e => cameBackBy (model prog w) A env E e s') J x F N hj hfix hgo turn done


theorem codeAny_compLoop_led {R : Result → Shared → Prop} {elt iter : Expr} {y : Str} {px : Pos} {scope : Scope} {pos : Pos} {I D L : Addr} {cenv : Env} {fp wr : List Addr} {n : Nat} {P : Nat → Value → Prop} {St : Nat → Heap → Prop} {m mC : Str → Option Value}
    {news fix : Led} (J : Nat → List Value → Led → Prop) (x : Iter prog w A h₀ L news fix I fp wr n P St s.heap) (hsz : n ≤ sizeLine)
    (hy : cenv.kindOf y = some .local) (hp : (cenv.scope.kind == .class || (cenv.scope.kind == .module && cenv.locals != cenv.globals)) = false)
    (F : Fr h₀ L s.heap m) (N : News h₀ L s.heap news) (hD : s.heap.PlainList D #[]) (hC : s.heap.Ns cenv.locals mC) (hDC : D ≠ cenv.locals) (hDL : D ≠ L) (hCL : cenv.locals ≠ L) (hDf : D ∉ fp) (hCf : cenv.locals ∉ fp) (hD0 : h₀.get? D = none) (hC0 : h₀.get? cenv.locals = none)
    (hDn : ∀ p ∈ news, p.1 ≠ D) (hCn : ∀ p ∈ news, p.1 ≠ cenv.locals)
    (hj : J 0 [] news) (hfix : ∀ i ys nx, J i ys nx → ∀ p ∈ fix, p ∈ nx)
    (turn : ∀ i v ys nx own h tk mC E' oC, i < n → P i v → ys.length = i → J i ys nx → (∀ p ∈ own, ∀ q ∈ nx, p.1 ≠ q.1) → Fr h₀ L h m → News h₀ L h (nx ++ own) → h.Ns cenv.locals mC → mC y = some v → (cenv.locals, oC) ∈ own →
      wpAny (model prog w) A (eval elt cenv) (fun r s₂ => LedEnd h₀ L own (fun m' nx' => m' = m ∧ J (i + 1) (ys ++ [r]) nx') { s with heap := h, toks := tk } s₂) E' { s with heap := h, toks := tk })
    (done : ∀ k ys nx h tk mC, ys.length = n → J n ys nx → (∀ p ∈ nx, p.1 ≠ D) → Fr h₀ L h m → News h₀ L h ((D, listOf ys.toArray k) :: nx) → h.Ns cenv.locals mC → (∀ p ∈ nx, p.1 ≠ cenv.locals) → R (.ok .next) { s with heap := h, toks := tk }) :
    codeAny (model prog w) A (.compLoop (.ListComp elt [⟨.Name y px, iter, [], 0⟩] scope pos) 0 (.ref I) (.ref D) cenv) R s := by
  have hLw : L ∉ wr := fun h => x.nL (x.W.sub _ h)
  have hCw : cenv.locals ∉ wr := fun h => hCf (x.W.sub _ h)
  have hDw : D ∉ wr := fun h => hDf (x.W.sub _ h)
  have old : ∀ b o, h₀.get? b = some o → b ∉ wr := fun b o e hb => by rw [x.new b hb] at e; cases e
  refine codeAny_compLoop_list
    (fun k s' => ∃ h' tk ys nx i mC, s' = { s with heap := h', toks := tk } ∧ St i h' ∧ Fr h₀ L h' m ∧ News h₀ L h' nx ∧ (∀ p ∈ nx, p.1 ∉ wr ∧ p.1 ≠ D ∧ p.1 ≠ cenv.locals) ∧ h'.PlainList D ys.toArray ∧ h'.Ns cenv.locals mC ∧ J i ys nx ∧ ys.length = i ∧ i ≤ n ∧ k = n + 1 - i) ?_ (n + 1)
    ⟨s.heap, s.toks, [], news, 0, mC, rfl, x.st, F, N, fun p hp => ⟨x.off p hp, hDn p hp, hCn p hp⟩, hD, hC, hj, rfl, Nat.zero_le _, rfl⟩
  rintro k s' ⟨h', tk, ys, nx, i, mC, rfl, hst', F', N', hoff, hD', hC', hJ, hlen, hi, rfl⟩
  have next : ∀ h₁ : Heap, (∀ b o, b ∉ wr → h'.get? b = some o → h₁.get? b = some o) → Fr h₀ L h₁ m ∧ News h₀ L h₁ nx := fun h₁ hk₁ =>
    ⟨⟨F'.ns.at' fun o e => hk₁ _ o hLw e, fun b o e => hk₁ b o (old b o e) (F'.keep b o e), F'.above⟩, fun p hp => ⟨hk₁ _ _ (hoff p hp).1 (N' p hp).1, (N' p hp).2⟩⟩
  by_cases hlt : i < n
  · refine x.W.item i _ _ _ hlt hst' fun v h₁ tk₁ hP hst₁ hk₁ => ?_
    obtain ⟨F₁, N₁⟩ := next h₁ hk₁
    refine wpAny_assign_Name (wpAny_storeName_local hy (hC'.at' fun o e => hk₁ _ o hCw e) (fun h₂ hn₂ hs₂ => ?_) hp)
    have F₂ : Fr h₀ L h₂ m := F₁.change hs₂ hCL hC0
    have N₂ : News h₀ L h₂ nx := fun p hp => ⟨(hs₂.2 _ (hoff p hp).2.2).trans (N₁ p hp).1, (N₁ p hp).2⟩
    have st₂ : St (i + 1) h₂ := x.W.frame _ _ _ hst₁ fun b hb o e => hs₂.extBut b o (fun h => hCf (h ▸ hb)) e
    have hD₂ : h₂.PlainList D ys.toArray := hD'.at fun o e => hs₂.extBut D o hDC (hk₁ _ o hDw e)
    obtain ⟨kD, eD⟩ := id hD₂
    obtain ⟨oC, _, _, eC, _⟩ := id hn₂
    have NO : News h₀ L h₂ ((D, listOf ys.toArray kD) :: (cenv.locals, oC) :: ownOf h₀ wr h₂) := by
      intro p hp
      rcases List.mem_cons.mp hp with rfl | hp
      · exact ⟨eD, hDL, hD0⟩
      · rcases List.mem_cons.mp hp with rfl | hp
        · exact ⟨eC, hCL, hC0⟩
        · exact news_ownOf hLw p hp
    have hoff₂ : ∀ p ∈ (D, listOf ys.toArray kD) :: (cenv.locals, oC) :: ownOf h₀ wr h₂, ∀ q ∈ nx, p.1 ≠ q.1 := by
      intro p hp q hq e
      rcases List.mem_cons.mp hp with rfl | hp
      · exact (hoff q hq).2.1 e.symm
      · rcases List.mem_cons.mp hp with rfl | hp
        · exact (hoff q hq).2.2 e.symm
        · exact (hoff q hq).1 (e ▸ ownOf_sub p hp)
    refine wpAny_mono (turn i v ys nx _ h₂ _ _ _ oC hlt hP hlen hJ hoff₂ F₂ (N₂.append NO) hn₂ (by simp) (.tail _ (.head _))) (fun r s₃ h₃ => ?_) fun _ _ e => e
    obtain ⟨h₃', tk₃, m₂, led, nx₂, rfl, F₃, N₃, hn, ho, hof, rfl, hJ₃⟩ := h₃
    have e3 := (N₃ _ (ho _ (.head _))).1
    have c3 := (N₃ _ (ho _ (.tail _ (.head _)))).1
    have st₃ : St (i + 1) h₃' := x.step st₂ F₂ F₃ (fun p hp => N₂ p (hfix _ _ _ hJ p hp)) N₃ (fun p hp => hn p (hfix _ _ _ hJ₃ p hp)) fun p hp => ho p (.tail _ (.tail _ hp))
    have off₃ : ∀ p ∈ nx₂, p.1 ∉ wr ∧ p.1 ≠ D ∧ p.1 ≠ cenv.locals := by
      refine fun p hp => ⟨fun hb => ?_, fun e => hof _ (.head _) p hp e.symm, fun e => hof _ (.tail _ (.head _)) p hp e.symm⟩
      obtain ⟨o, e⟩ := x.has _ _ st₂ p.1 hb
      exact hof _ (.tail _ (.tail _ (mem_ownOf hb (x.new _ hb) e))) p hp rfl
    have hys : ys.toArray.size ≤ sizeLine := by rw [List.size_toArray]; omega
    refine wpAny_list_append_plain (hsz := hys) (items := ys.toArray) ⟨kD, e3⟩ fun h₄ hl₄ hs₄ => ?_
    refine ⟨n + 1 - (i + 1), by omega, h₄, tk₃, ys ++ [r], nx₂, i + 1, _, rfl, ?_, F₃.change hs₄ hDL hD0, fun p hp => ⟨(hs₄.2 _ (off₃ p hp).2.1).trans (N₃ p (hn p hp)).1, (N₃ p (hn p hp)).2⟩, off₃, ?_, (hn₂.at' fun o e => ?_).sameBut hs₄ (Ne.symm hDC), hJ₃, by rw [List.length_append, List.length_singleton, hlen], hlt, rfl⟩
    · exact x.W.frame _ _ _ st₃ fun b hb o e => hs₄.extBut b o (fun h => hDf (h ▸ hb)) e
    · simpa using hl₄
    · rw [eC] at e; cases e; exact c3
  · have hin : i = n := by omega
    subst hin
    refine x.W.done _ _ _ hst' fun h₁ tk₁ hk₁ => ?_
    obtain ⟨F₁, N₁⟩ := next h₁ hk₁
    obtain ⟨kD, eD⟩ := hD'.at fun o e => hk₁ _ o hDw e
    refine done kD ys nx h₁ tk₁ mC hlen hJ (fun p hp => (hoff p hp).2.1) F₁ (fun p hp => ?_) (hC'.at' fun o e => hk₁ _ o hCw e) (fun p hp => (hoff p hp).2.2)
    rcases List.mem_cons.mp hp with rfl | hp
    · exact ⟨eD, hDL, hD0⟩
    · exact N₁ p hp

/-- what stands at a comprehension's head, once its iterator is made -/
def CompAt (prog : Program) (w : World) (A : Around) (h₀ : Heap) (L : Addr) (env : Env) (scope : Scope) (cl : List (Str × Addr)) (y : Str) (elt : Expr) (Q : Value → Shared → Prop) (it : Value) (s₂ : Shared) : Prop :=
  ∃ (I : Addr) (fp wr : List Addr) (n : Nat) (P : Nat → Value → Prop) (St : Nat → Heap → Prop) (m : Str → Option Value) (news fix : Led) (J : Nat → List Value → Led → Prop),
    it = .ref I ∧ Iter prog w A h₀ L news fix I fp wr n P St s₂.heap ∧ n ≤ sizeLine ∧ Fr h₀ L s₂.heap m ∧ News h₀ L s₂.heap news ∧ J 0 [] news ∧ (∀ i ys nx, J i ys nx → ∀ p ∈ fix, p ∈ nx) ∧
    (∀ i v ys nx own h tk mC E' C oC, i < n → P i v → ys.length = i → J i ys nx → (∀ p ∈ own, ∀ q ∈ nx, p.1 ≠ q.1) → Fr h₀ L h m → News h₀ L h (nx ++ own) → h.Ns C mC → mC y = some v → (C, oC) ∈ own →
      wpAny (model prog w) A (eval elt (compEnvC scope cl C env)) (fun r s₃ => LedEnd h₀ L own (fun m' nx' => m' = m ∧ J (i + 1) (ys ++ [r]) nx') { s₂ with heap := h, toks := tk } s₃) E' { s₂ with heap := h, toks := tk }) ∧
    (∀ D k ys nx h tk, ys.length = n → J n ys nx → (∀ p ∈ nx, p.1 ≠ D) → (∀ p ∈ news, p.1 < D) → Fr h₀ L h m → News h₀ L h ((D, listOf ys.toArray k) :: nx) → Q (.ref D) { s₂ with heap := h, toks := tk })

theorem comp_block_led {elt iter : Expr} {y : Str} {px : Pos} {scope : Scope} {cl : List (Str × Addr)} {pos : Pos} {s₂ : Shared} {L : Addr} {it : Value} {E : Value → Shared → Prop} {RR : Value → Addr → Result → Shared → Prop} {Q : Value → Shared → Prop}
    (hcell : ∀ z ∈ scope.names, z.2 ≠ .cell) (hkind : scope.kind = .function) (hx : scope.names.lookup y = some .local)
    (h : CompAt prog w A h₀ L env scope cl y elt Q it s₂)
    (hRR : ∀ D C h' tk mC, D ≠ C → h'.Ns C mC → h₀.get? C = none → (∀ h'', Heap.SameBut C h' h'' → Q (.ref D) { s₂ with heap := h'', toks := tk }) → RR (.ref D) C (.ok .next) { s₂ with heap := h', toks := tk }) :
    wpAny (model prog w) A (newList []) (fun acc s₃ => wpAny (model prog w) A (newFunctionEnv scope env.globals cl [] env.qual none .none (some env)) (fun cenv s₄ =>
      codeAny (model prog w) A (.compStart (.ListComp elt [⟨.Name y px, iter, [], 0⟩] scope pos) 0 it acc { cenv with scope := relabel scope env }) (RR acc cenv.locals) s₄) E s₃) E s₂ := by
  obtain ⟨I, fp, wr, n, P, St, m, news, fix, J, rfl, x, hsz, F, N, hj, hfix, turn, done⟩ := h
  refine wpAny_newObj_type (wpAny_newFunctionEnv hcell (by intro y hy; simp at hy) (fun h₁ hns₁ hsb₁ => ?_) hkind)
  dsimp only at hns₁ hsb₁ ⊢
  generalize hH2 : s₂.heap.push { cls := .type "list", dict := none, data := .seq ([] : List Value).toArray } = H2 at hns₁ hsb₁ ⊢
  have hC : H2.objs.size = s₂.heap.objs.size + 1 := by rw [← hH2, Heap.size_push]
  have hDC : s₂.heap.objs.size ≠ H2.objs.size := by rw [hC]; exact Nat.ne_of_lt (Nat.lt_succ_self _)
  have below : ∀ b, b < s₂.heap.objs.size → b ≠ H2.objs.size ∧ b ≠ s₂.heap.objs.size := fun b hb => ⟨by rw [hC]; exact Nat.ne_of_lt (Nat.lt_succ_of_lt hb), Nat.ne_of_lt hb⟩
  have old : ∀ b o, s₂.heap.get? b = some o → h₁.get? b = some o := fun b o e => hsb₁.extBut b o (below b (Heap.lt_size e)).1 (Heap.get?_push_of_some _ (hH2 ▸ Heap.get?_push_of_some _ e))
  have hacc : h₁.PlainList s₂.heap.objs.size #[] := ⟨_, hsb₁.extBut _ _ hDC (Heap.get?_push_of_some _ (hH2 ▸ Heap.get?_push_size _ rfl))⟩
  have fresh : ∀ a, s₂.heap.objs.size ≤ a → h₀.get? a = none := fun a ha => by
    cases e : h₀.get? a with
    | none => rfl
    | some o' => exact absurd (Heap.lt_size (F.keep _ _ e)) (Nat.not_lt.mpr ha)
  have hCle : s₂.heap.objs.size ≤ H2.objs.size := by rw [hC]; exact Nat.le_succ _
  have F₁ : Fr h₀ L h₁ m := ⟨F.ns.at' fun o e => old _ o e, fun b o e => old b o (F.keep b o e), F.above⟩
  have N₁ : News h₀ L h₁ news := fun p hp => ⟨old _ _ (N p hp).1, (N p hp).2⟩
  have x₁ : Iter prog w A h₀ L news fix I fp wr n P St h₁ := { x with
    st := x.W.frame _ _ _ x.st fun b _ o e => old b o e
    lt := fun b hb => by
      have h1 := x.lt b hb
      have h2 : H2.objs.size < h₁.objs.size := hns₁.lt
      exact Nat.lt_trans (Nat.lt_of_lt_of_le h1 hCle) h2 }
  have loop : ∀ s₃ : Shared, s₃ = { s₂ with heap := h₁, toks := s₂.toks + ([] : List (Str × Value)).length } →
      codeAny (model prog w) A (.compLoop (.ListComp elt [⟨.Name y px, iter, [], 0⟩] scope pos) 0 (.ref I) (.ref s₂.heap.objs.size) (compEnvC scope cl H2.objs.size env)) (RR (.ref s₂.heap.objs.size) H2.objs.size) s₃ := by
    rintro s₃ rfl
    have hlt := x.lt
    have hL : L < s₂.heap.objs.size := F.ns.lt
    refine codeAny_compLoop_led (L := L) (cenv := compEnvC scope cl H2.objs.size env) (m := m) (mC := _) J x₁ hsz (lookup_relabel_local hx) (by simp [compEnvC, relabel, hkind]) F₁ N₁ hacc hns₁ hDC (Nat.ne_of_gt hL) (Nat.ne_of_gt (Nat.lt_of_lt_of_le hL hCle))
      (fun hm => Nat.lt_irrefl _ (hlt _ hm)) (fun hm => Nat.lt_irrefl _ (Nat.lt_of_lt_of_le (hlt _ hm) hCle)) (fresh _ (Nat.le_refl _)) (fresh _ hCle)
      (fun p hp => Nat.ne_of_lt (Heap.lt_size (N p hp).1)) (fun p hp => Nat.ne_of_lt (Nat.lt_of_lt_of_le (Heap.lt_size (N p hp).1) hCle)) hj hfix
      (fun i v ys nx own h tk mC E' oC a b c d e f g k l o => turn i v ys nx own h tk mC E' _ oC a b c d e f g k l o) ?_
    intro k ys nx h tk mC hlen hJ hnD F' N' hC' hnC
    refine hRR _ _ _ _ mC hDC hC' (fresh _ hCle) fun h'' hs'' => ?_
    refine done _ k ys nx h'' _ hlen hJ hnD (fun p hp => Heap.lt_size (N p hp).1) (F'.change hs'' (Nat.ne_of_gt (Nat.lt_of_lt_of_le hL hCle)) (fresh _ hCle)) fun p hp => ⟨(hs''.2 _ ?_).trans (N' p hp).1, (N' p hp).2⟩
    rcases List.mem_cons.mp hp with rfl | hp
    · exact hDC
    · exact hnC p hp
  exact codeAny_compStart_list (loop _ rfl) (x.W.self 0 _ _ _ x₁.st (loop _ rfl))

theorem comp_led {L : Addr} {m : Str → Option Value} {elt iter : Expr} {y : Str} {px : Pos} {scope : Scope} {cl : List (Str × Addr)} {pos : Pos} {Q E : Value → Shared → Prop} (_F : Fr h₀ L s.heap m)
    (hclos : closureFor scope env = pure cl) (hcell : ∀ z ∈ scope.names, z.2 ≠ .cell) (hkind : scope.kind = .function)
    (hnames : ∀ z ∈ scope.names, z.2 = .local → scope.names.lookup z.1 = some .local) (hx : scope.names.lookup y = some .local)
    (h : wpAny (model prog w) A (eval iter env) (fun xv s₁ => wpAny (model prog w) A (pyIter xv) (fun it s₂ => CompAt prog w A h₀ L env scope cl y elt Q it s₂) E s₁) E s)
    (hs : ∀ x, foldedSetIterable iter env x = pure x := by intro _; rfl) :
    wpAny (model prog w) A (eval (.ListComp elt [⟨.Name y px, iter, [], 0⟩] scope pos) env) Q E s := by
  rw [eval_ListComp]
  refine wpAny_comprehension_free (use := none) rfl hs hclos hkind hnames (wpAny_mono h (fun xv s₁ h₁ => wpAny_mono h₁ (fun it s₂ h₂ => ?_) fun _ _ e => e) fun _ _ e => e)
  refine comp_block_led (RR := fun acc C => compPost (model prog w) A E none Q acc C) hcell hkind hx h₂ ?_
  intro D C h' tk mC _ hC _ hq
  exact ⟨mC, hC, hq⟩

theorem new_at {L I : Addr} {h : Heap} {m : Str → Option Value} (F : Fr h₀ L h m) (hI : h.objs.size ≤ I) : h₀.get? I = none := by
  cases e : h₀.get? I with
  | none => rfl
  | some o => exact absurd (Heap.lt_size (F.keep _ _ e)) (Nat.not_lt.mpr hI)

theorem iter_range {r L : Addr} {b : Int} {t u v : Tok} {m : Str → Option Value} {news : Led} {Q : Value → Shared → Prop} {E : Value → Shared → Prop} (hh : A.handled = none) (hr : IsRange s.heap r 0 b 1 t u v) (h0 : 0 ≤ b) (hb : b ≤ 1000)
    (F : Fr h₀ L s.heap m) (N : News h₀ L s.heap news)
    (h : ∀ I St h', Fr h₀ L h' m → News h₀ L h' news → Iter prog w A h₀ L news [] I [I] [I] b.toNat (fun i v => ∃ t, v = .int (i : Int) t) St h' → Q (.ref I) { s with heap := h' }) :
    wpAny (model prog w) A (pyIter (.ref r)) Q E s := by
  have hsmall : Builtin.Range.small 0 b 1 = true := small_one (by omega) (by omega) (by omega) (by omega)
  have hn : Builtin.Range.rangeSize 0 b 1 = (b.toNat : Int) := by
    rw [rangeSize_one]; split <;> omega
  refine wpAny_pyIter_range hr hsmall (h _ (fun i h => IsRangeIter h s.heap.objs.size (0 + (i : Nat) * 1) ((b.toNat : Int) - (i : Nat)) 1) _ (F.push _) (fun p hp => ⟨Heap.get?_push_of_some _ (N p hp).1, (N p hp).2⟩) ?_)
  have W := (Walks.range (prog := prog) (w := w) hh s.heap.objs.size 0 1 b.toNat)
  refine ⟨⟨W.sub, W.frame, fun i s Q E hi hst hQ => W.item i s Q E hi hst fun v h' tk hP => hQ v h' tk ?_, W.done, W.self⟩, ?_, ?_, ?_, ?_, ?_, ?_, ?_⟩
  · obtain ⟨t, rfl⟩ := hP
    exact ⟨t, by simp⟩
  · show IsRangeIter _ _ _ _ _
    rw [hn]; simpa using Heap.get?_push_size _ rfl
  · intro c hc
    rw [List.mem_singleton.mp hc, Heap.size_push]; exact Nat.lt_succ_self _
  · intro hm
    exact absurd F.ns.lt ((List.mem_singleton.mp hm) ▸ Nat.lt_irrefl _)
  · intro c hc
    rw [List.mem_singleton.mp hc]
    exact new_at F (Nat.le_refl _)
  · intro i h hi c hc
    rw [List.mem_singleton.mp hc]
    exact ⟨_, hi⟩
  · intro c hc hn
    exact absurd hc hn
  · intro p hp hI
    exact absurd (Heap.lt_size (N p hp).1) ((List.mem_singleton.mp hI) ▸ Nat.lt_irrefl _)

theorem iter_tuple {t L : Addr} {vs : List Value} {k : Nat} {m : Str → Option Value} {news : Led} {Q : Value → Shared → Prop} {E : Value → Shared → Prop} (hh : A.handled = none)
    (F : Fr h₀ L s.heap m) (N : News h₀ L s.heap news) (hm : (t, ({ cls := .type "tuple", data := .seq vs.toArray k } : Obj)) ∈ news)
    (h : ∀ I St h', Fr h₀ L h' m → News h₀ L h' news → Iter prog w A h₀ L news [(t, ({ cls := .type "tuple", data := .seq vs.toArray k } : Obj))] I [I, t] [I] vs.length (fun i v => vs[i]? = some v) St h' → (∀ i hp, St i hp → hp.IsTupleIter I t i) → Q (.ref I) { s with heap := h' }) :
    wpAny (model prog w) A (pyIter (.ref t)) Q E s := by
  have ht : s.heap.IsTuple t vs.toArray := ⟨_, (N _ hm).1, rfl, k, rfl⟩
  have hlt : t < s.heap.objs.size := Heap.lt_size (N _ hm).1
  refine wpAny_pyIter_tuple ht (h _ (fun i h => h.IsTupleIter s.heap.objs.size t i ∧ h.IsTuple t vs.toArray) _ (F.push _) (fun p hp => ⟨Heap.get?_push_of_some _ (N p hp).1, (N p hp).2⟩) ?_ fun _ _ x => x.1)
  have W := (Walks.tuple (prog := prog) (w := w) hh s.heap.objs.size t (Nat.ne_of_lt hlt) vs.toArray)
  rw [List.size_toArray] at W
  refine ⟨⟨W.sub, W.frame, fun i s Q E hi hst hQ => W.item i s Q E hi hst fun v h' tk hP => hQ v h' tk (by simpa using hP), W.done, W.self⟩, ?_, ?_, ?_, ?_, ?_, ?_, ?_⟩
  · exact ⟨⟨_, Heap.get?_push_size _ rfl, rfl, rfl⟩, ht.at fun o e => Heap.get?_push_of_some _ e⟩
  · intro c hc
    rw [Heap.size_push]
    rcases List.mem_cons.mp hc with rfl | hc
    · exact Nat.lt_succ_self _
    · rw [List.mem_singleton.mp hc]; exact Nat.lt_succ_of_lt hlt
  · intro hl
    rcases List.mem_cons.mp hl with e | hl
    · exact absurd F.ns.lt (e ▸ Nat.lt_irrefl _)
    · exact (N _ hm).2.1 (List.mem_singleton.mp hl).symm
  · intro c hc
    rw [List.mem_singleton.mp hc]
    exact new_at F (Nat.le_refl _)
  · intro i h hi c hc
    rw [List.mem_singleton.mp hc]
    obtain ⟨o, e, _⟩ := hi.1
    exact ⟨o, e⟩
  · intro c hc hn
    rcases List.mem_cons.mp hc with rfl | hc
    · exact absurd (List.mem_singleton.mpr rfl) hn
    · rw [List.mem_singleton.mp hc]; exact .inr ⟨_, List.mem_singleton.mpr rfl⟩
  · intro p hp hI
    exact absurd (Heap.lt_size (N p hp).1) ((List.mem_singleton.mp hI) ▸ Nat.lt_irrefl _)

theorem iter_list {t L : Addr} {vs : List Value} {k : Nat} {m : Str → Option Value} {news : Led} {Q : Value → Shared → Prop} {E : Value → Shared → Prop} (hh : A.handled = none)
    (F : Fr h₀ L s.heap m) (N : News h₀ L s.heap news) (hm : (t, listOf vs.toArray k) ∈ news)
    (h : ∀ I St h', Fr h₀ L h' m → News h₀ L h' news → Iter prog w A h₀ L news [(t, listOf vs.toArray k)] I [I, t] [I] vs.length (fun i v => vs[i]? = some v) St h' → Q (.ref I) { s with heap := h' }) :
    wpAny (model prog w) A (pyIter (.ref t)) Q E s := by
  have ht : s.heap.IsList t vs.toArray := ⟨_, (N _ hm).1, rfl, k, rfl⟩
  have hlt : t < s.heap.objs.size := Heap.lt_size (N _ hm).1
  refine wpAny_pyIter_list ht (h _ (fun i h => h.IsListIter s.heap.objs.size t i ∧ h.IsList t vs.toArray) _ (F.push _) (fun p hp => ⟨Heap.get?_push_of_some _ (N p hp).1, (N p hp).2⟩) ?_)
  have W := (Walks.list (prog := prog) (w := w) hh s.heap.objs.size t (Nat.ne_of_lt hlt) vs.toArray)
  rw [List.size_toArray] at W
  refine ⟨⟨W.sub, W.frame, fun i s Q E hi hst hQ => W.item i s Q E hi hst fun v h' tk hP => hQ v h' tk (by simpa using hP), W.done, W.self⟩, ?_, ?_, ?_, ?_, ?_, ?_, ?_⟩
  · exact ⟨⟨_, Heap.get?_push_size _ rfl, rfl, rfl⟩, ht.at fun o e => Heap.get?_push_of_some _ e⟩
  · intro c hc
    rw [Heap.size_push]
    rcases List.mem_cons.mp hc with rfl | hc
    · exact Nat.lt_succ_self _
    · rw [List.mem_singleton.mp hc]; exact Nat.lt_succ_of_lt hlt
  · intro hl
    rcases List.mem_cons.mp hl with e | hl
    · exact absurd F.ns.lt (e ▸ Nat.lt_irrefl _)
    · exact (N _ hm).2.1 (List.mem_singleton.mp hl).symm
  · intro c hc
    rw [List.mem_singleton.mp hc]
    exact new_at F (Nat.le_refl _)
  · intro i h hi c hc
    rw [List.mem_singleton.mp hc]
    obtain ⟨o, e, _⟩ := hi.1
    exact ⟨o, e⟩
  · intro c hc hn
    rcases List.mem_cons.mp hc with rfl | hc
    · exact absurd (List.mem_singleton.mpr rfl) hn
    · rw [List.mem_singleton.mp hc]; exact .inr ⟨_, List.mem_singleton.mpr rfl⟩
  · intro p hp hI
    exact absurd (Heap.lt_size (N p hp).1) ((List.mem_singleton.mp hI) ▸ Nat.lt_irrefl _)
end
open PySem PySem.W PySem.Calls PyProof.Rows PySem.Spec

theorem Fresh.sub {x : Addr} {a t u : Led} (h : Fresh x a t) (hs : ∀ p ∈ u, p ∈ t) : Fresh x a u := fun p hp => h p (hs p hp)
theorem Fresh.ne {x : Addr} {a t : Led} (h : Fresh x a t) : ∀ q ∈ a, ∀ p ∈ t, q.1 ≠ p.1 := fun q hq p hp => Nat.ne_of_lt ((h p hp).2 q hq)
theorem Fresh.off {x : Addr} {a t : Led} (h : Fresh x a t) : Off x t := fun p hp => Nat.ne_of_gt (h p hp).1

theorem PPaired.mono {α β : Type} {F G : α → β → Prop} (h : ∀ a b, F a b → G a b) : ∀ {l₁ : List α} {l₂ : List β}, Paired F l₁ l₂ → Paired G l₁ l₂ := by
  intro l₁ l₂ k
  induction k with
  | nil => exact .nil
  | cons a _ ih => exact .cons (h _ _ a) ih

section
variable {prog : Program} {w : World} {A : Around} {s₂ : Shared} {env : Env} {h₀ : Heap}

def EltEnd {β : Type} (Rel : Led → Value → β → Prop) (h₀ : Heap) (L : Addr) (m : Str → Option Value) (j : Addr) (nb own : Led) (R : Led) (g : Nat) (s₁ : Shared) (r : Value) (s₃ : Shared) : Prop :=
  ∃ h' tk' o'' tl2 b, s₃ = { s₁ with heap := h', toks := tk' } ∧ Fr h₀ L h' m ∧ News h₀ L h' ((j, o'') :: (nb ++ own ++ tl2)) ∧ Fresh j (nb ++ own) tl2 ∧ Jar g R o'' ∧ Rel tl2 r b
theorem EltEnd.intro {β : Type} {Rel : Led → Value → β → Prop} {h₀ h' : Heap} {L : Addr} {m : Str → Option Value} {j : Addr} {nb own tl2 led : Led} {R : Led} {g g' : Nat} {s₁ : Shared} {r : Value} {tk' : Nat} {o'' : Obj} {b : β}
    (F : Fr h₀ L h' m) (N : News h₀ L h' led) (J : Jar g' R o'') (hg : g ≤ g') (hR : Rel tl2 r b) (hs : ∀ p ∈ (j, o'') :: (nb ++ own ++ tl2), p ∈ led) (hf : Fresh j (nb ++ own) tl2) : EltEnd Rel h₀ L m j nb own R g s₁ r { s₁ with heap := h', toks := tk' } :=
  ⟨h', tk', o'', tl2, b, rfl, F, News.sub N hs, hf, J.less hg, hR⟩

/-- a comprehension whose element turns the jar -/
theorem comp_jar {β : Type} {Rel : Led → Value → β → Prop} {I j L : Addr} {o : Obj} {nb R : Led} {fp wr : List Addr} {n k g : Nat} {P : Nat → Value → Prop} {St : Nat → Heap → Prop} {m : Str → Option Value} {scope : Scope} {cl : List (Str × Addr)} {y : Str} {elt : Expr} {Q : Value → Shared → Prop}
    (mono : ∀ a b v x, (∀ p ∈ a, p ∈ b) → Rel a v x → Rel b v x)
    (x : Iter prog w A h₀ L ((j, o) :: nb) [] I fp wr n P St s₂.heap) (hn : n ≤ 8) (F : Fr h₀ L s₂.heap m) (N : News h₀ L s₂.heap ((j, o) :: nb)) (hJ : Jar g R o) (hg : n * k ≤ g)
    (helt : ∀ tl o' g' own h tk C E', k ≤ g' → Jar g' R o' → Off j tl → Off j own → Fr h₀ L h m → News h₀ L h ((j, o') :: (nb ++ (tl ++ own))) →
      wpAny (model prog w) A (eval elt (compEnvC scope cl C env)) (EltEnd Rel h₀ L m j nb (tl ++ own) R (g' - k) { s₂ with heap := h, toks := tk }) E' { s₂ with heap := h, toks := tk })
    (done : ∀ D kk ys tl o' bs h tk, ys.length = n → Paired (Rel tl) ys bs → Jar (g - n * k) R o' → Fresh j nb tl → @LT.lt Nat _ j D → AllLt D nb → Off D tl → Fr h₀ L h m → News h₀ L h ((D, listOf ys.toArray kk) :: (j, o') :: (nb ++ tl)) → Q (.ref D) { s₂ with heap := h, toks := tk }) :
    CompAt prog w A h₀ L env scope cl y elt Q (.ref I) s₂ := by
  refine ⟨I, fp, wr, n, P, St, m, (j, o) :: nb, [], fun i ys nx => ∃ o' tl bs, nx = (j, o') :: (nb ++ tl) ∧ Jar (g - i * k) R o' ∧ Fresh j nb tl ∧ Paired (Rel tl) ys bs, rfl, x, Nat.le_trans hn (by decide), F, N, ⟨o, [], [], by rw [List.append_nil], by rw [Nat.zero_mul]; exact hJ, fresh_nil, .nil⟩, fun _ _ _ _ p hp => (nomatch hp), ?_, ?_⟩
  · rintro i v ys nx own h tk mC E' C oC hin hP hlen ⟨o', tl, bs, rfl, hJ', hf, hp⟩ hown F' N' _ _ _
    have hk : k ≤ g - i * k := by
      have h1 : (i + 1) * k ≤ n * k := Nat.mul_le_mul_right k hin
      rw [Nat.add_mul, Nat.one_mul] at h1
      omega
    refine wpAny_mono (helt tl o' (g - i * k) own h tk C E' hk hJ' hf.off (fun p hp e => hown p hp (j, o') (.head _) e) F' (News.sub N' fun p hp => ?_)) (fun r s₃ h₃ => ?_) fun _ _ e => e
    · rcases List.mem_cons.mp hp with rfl | hp
      · exact List.mem_append.mpr (.inl (.head _))
      · rcases List.mem_append.mp hp with hp | hp
        · exact List.mem_append.mpr (.inl (.tail _ (List.mem_append.mpr (.inl hp))))
        · rcases List.mem_append.mp hp with hp | hp
          · exact List.mem_append.mpr (.inl (.tail _ (List.mem_append.mpr (.inr hp))))
          · exact List.mem_append.mpr (.inr hp)
    · obtain ⟨h', tk', o'', tl2, b, rfl, F₃, N₃, hf₃, hJ₃, hR₃⟩ := h₃
      refine ⟨h', tk', m, _, (j, o'') :: (nb ++ (tl ++ tl2)), rfl, F₃, N₃, ?_, ?_, ?_, rfl, o'', tl ++ tl2, bs ++ [b], rfl, ?_, ?_, ?_⟩
      · intro p hp
        rcases List.mem_cons.mp hp with rfl | hp
        · exact .head _
        · refine .tail _ ?_
          rcases List.mem_append.mp hp with hp | hp
          · exact List.mem_append.mpr (.inl (List.mem_append.mpr (.inl hp)))
          · rcases List.mem_append.mp hp with hp | hp
            · exact List.mem_append.mpr (.inl (List.mem_append.mpr (.inr (List.mem_append.mpr (.inl hp)))))
            · exact List.mem_append.mpr (.inr hp)
      · intro p hp
        exact .tail _ (List.mem_append.mpr (.inl (List.mem_append.mpr (.inr (List.mem_append.mpr (.inr hp))))))
      · intro p hp q hq
        rcases List.mem_cons.mp hq with rfl | hq
        · exact hown p hp (j, o') (.head _)
        · rcases List.mem_append.mp hq with hq | hq
          · exact hown p hp q (.tail _ (List.mem_append.mpr (.inl hq)))
          · rcases List.mem_append.mp hq with hq | hq
            · exact hown p hp q (.tail _ (List.mem_append.mpr (.inr hq)))
            · exact hf₃.ne p (List.mem_append.mpr (.inr (List.mem_append.mpr (.inr hp)))) q hq
      · have : g - i * k - k = g - (i + 1) * k := by rw [Nat.add_mul, Nat.one_mul]; omega
        rw [← this]; exact hJ₃
      · exact hf.append (hf₃.weak fun p hp => List.mem_append.mpr (.inl hp))
      · exact Paired.snoc (PPaired.mono (fun a b h => mono _ _ _ _ (fun p hp => List.mem_append.mpr (.inl hp)) h) hp) (mono _ _ _ _ (fun p hp => List.mem_append.mpr (.inr hp)) hR₃)
  · rintro D kk ys nx h tk hlen ⟨o', tl, bs, rfl, hJ', hf, hp⟩ hD hlt F' N'
    exact done D kk ys tl o' bs h tk hlen hp hJ' hf (hlt (j, o) (.head _)) (allLt_of fun p hp => hlt p (.tail _ hp)) (fun p hp => hD p (.tail _ (List.mem_append.mpr (.inr hp)))) F' N'
end

theorem tuple_led {prog : Program} {w : World} {A : Around} {s : Shared} {h₀ : Heap} {L l : Addr} {m : Str → Option Value} {news : Led} {vs : List Value} {k : Nat} {Q : Value → Shared → Prop} {E : Value → Shared → Prop}
    (F : Fr h₀ L s.heap m) (N : News h₀ L s.heap news) (hm : (l, listOf vs.toArray k) ∈ news) (hz : vs.length ≤ 100)
    (h : ∀ D h', Fr h₀ L h' m → News h₀ L h' ((D, ({ cls := .type "tuple", data := .seq vs.toArray } : Obj)) :: news) → (∀ p ∈ news, p.1 < D) → Q (.ref D) { s with heap := h' }) : wpAny (model prog w) A (call (.type "tuple") [.ref l]) Q E s :=
  kde_tupleOf F N (PySem.IsL.isList (n := k) (N _ hm).1) (by rw [List.size_toArray]; omega) (by simp) h

theorem For_ledF {prog : Program} {w : World} {A : Around} {s : Shared} {env : Env} {h₀ : Heap} {m : Str → Option Value} {E : Value → Shared → Prop} {Q : Flow → Shared → Prop} {target iter : Expr} {pos : Pos} {body : List Stmt} (_F : Fr h₀ env.locals s.heap m)
    (h : wpAny (model prog w) A (eval iter env) (fun xv s₁ => wpAny (model prog w) A (pyIter xv) (fun it s₂ => ForAt prog w A h₀ env target body Q it s₂) E s₁) E s)
    (hs : ∀ x, foldedSetIterable iter env x = pure x := by intro _; rfl) :
    wpAny (model prog w) A (exec (.For target iter body [] pos) env) Q E s := For_led h₀ h hs
theorem LedEnd.intro {h₀ h' : Heap} {L : Addr} {own led nx : Led} {J : (Str → Option Value) → Led → Prop} {s₁ : Shared} {m' : Str → Option Value} {tk : Nat} (F : Fr h₀ L h' m') (N : News h₀ L h' led) (h1 : ∀ p ∈ nx, p ∈ led) (h2 : ∀ p ∈ own, p ∈ led) (h3 : ∀ p ∈ own, ∀ q ∈ nx, p.1 ≠ q.1) (hj : J m' nx) :
    LedEnd h₀ L own J s₁ { s₁ with heap := h', toks := tk } := ⟨h', tk, m', led, nx, rfl, F, N, h1, h2, h3, hj⟩
open PySem PySem.W PySem.Calls PyProof.Rows PySem.Spec

theorem append_led {prog : Program} {w : World} {A : Around} {s : Shared} {h₀ : Heap} {L D : Addr} {m : Str → Option Value} {news news' : Led} {vs : List Value} {n : Nat} {v : Value} {Q : Value → Shared → Prop} {E : Value → Shared → Prop}
    (F : Fr h₀ L s.heap m) (N : News h₀ L s.heap news) (U : Upd D (listOf vs.toArray n) (listOf (vs ++ [v]).toArray (n + 1)) news news') (hz : vs.length ≤ 1000000)
    (h : ∀ h', Fr h₀ L h' m → News h₀ L h' news' → Q .none { s with heap := h' }) : wpAny (model prog w) A (call (.builtin "list.append") [.ref D, v]) Q E s := by
  refine append_K (its := vs.toArray) (n := n) F N ?_ h (by rw [List.size_toArray, sizeLine_eq]; omega)
  have : vs.toArray.push v = (vs ++ [v]).toArray := by simp
  rw [this]; exact U

section
variable {prog : Program} {w : World} {A : Around} {s₂ : Shared} {env : Env} {h₀ : Heap}

/-- a turn's end: the list at br has one item more -/
def GrowEnd {β : Type} (Rel : Led → Value → β → Prop) (h₀ : Heap) (L : Addr) (m : Str → Option Value) (xt xm : Str) (j br : Addr) (nb own R : Led) (g : Nat) (bl : List Value) (s₁ : Shared) (Q : Flow → Shared → Prop) (f : Flow) (s₃ : Shared) : Prop :=
  match f with
  | .ret v => Q (.ret v) s₃
  | .brk => Q .next s₃
  | _ => ∃ h' tk' u1 u2 o'' kb' v tl2 b, s₃ = { s₁ with heap := h', toks := tk' } ∧ Fr h₀ L h' (fun z => if z = xt then u1 else if z = xm then u2 else m z) ∧ News h₀ L h' ((j, o'') :: (br, listOf (bl ++ [v]).toArray kb') :: (nb ++ own ++ tl2)) ∧ Fresh j (nb ++ own) tl2 ∧ Off br tl2 ∧ Jar g R o'' ∧ Rel tl2 v b

theorem GrowEnd.intro {β : Type} {Rel : Led → Value → β → Prop} {h₀ h' : Heap} {L : Addr} {m m' : Str → Option Value} {xt xm : Str} {j br : Addr} {nb own R tl2 led : Led} {g g' : Nat} {bl : List Value} {s₁ : Shared} {Q : Flow → Shared → Prop} {tk' : Nat} {o'' : Obj} {kb' : Nat} {v : Value} {b : β}
    (F : Fr h₀ L h' m') (N : News h₀ L h' led) (P : (j, o'') ∈ led) (P2 : (br, listOf (bl ++ [v]).toArray kb') ∈ led) (J : Jar g' R o'') (hg : g ≤ g') (hR : Rel tl2 v b) (hs : ∀ p ∈ nb ++ own ++ tl2, p ∈ led) (hf : Fresh j (nb ++ own) tl2) (hb : Off br tl2) (hm : ∀ z, z ≠ xt → z ≠ xm → m' z = m z) (hne : xt ≠ xm) :
    GrowEnd Rel h₀ L m xt xm j br nb own R g bl s₁ Q .next { s₁ with heap := h', toks := tk' } := by
  refine ⟨h', tk', m' xt, m' xm, o'', kb', v, tl2, b, rfl, ?_, fun p hp => ?_, hf, hb, J.less hg, hR⟩
  · have e : (fun z => if z = xt then m' xt else if z = xm then m' xm else m z) = m' := by
      funext z
      by_cases h1 : z = xt
      · simp [h1]
      · by_cases h2 : z = xm
        · subst h2; simp [h1]
        · simp [h1, h2, hm z h1 h2]
    rw [e]; exact F
  · rcases List.mem_cons.mp hp with rfl | hp
    · exact N _ P
    · rcases List.mem_cons.mp hp with rfl | hp
      · exact N _ P2
      · exact N p (hs p hp)

theorem allLt_sub {D : Addr} {a b : Led} (h : AllLt D a) (hs : ∀ p ∈ b, p ∈ a) : AllLt D b := allLt_of fun p hp => ktn_ltOf h p (hs p hp)

theorem GrowEnd.intro1 {β : Type} {Rel : Led → Value → β → Prop} {h₀ h' : Heap} {L D : Addr} {oD : Obj} {m m' : Str → Option Value} {xt xm : Str} {j br : Addr} {nb own R tl2 led : Led} {g g' : Nat} {bl : List Value} {s₁ : Shared} {Q : Flow → Shared → Prop} {tk' : Nat} {o'' : Obj} {kb' : Nat} {b : β}
    (F : Fr h₀ L h' m') (N : News h₀ L h' ((D, oD) :: led)) (P : (j, o'') ∈ led) (P2 : (br, listOf (bl ++ [Value.ref D]).toArray kb') ∈ led) (J : Jar g' R o'') (hg : g ≤ g') (hR : Rel ((D, oD) :: tl2) (.ref D) b) (hs : ∀ p ∈ nb ++ own ++ tl2, p ∈ led) (hf : Fresh j (nb ++ own) tl2) (hb : Off br tl2)
    (hx : @LT.lt Nat _ j D) (hr : AllLt D (nb ++ own)) (hbD : @LT.lt Nat _ br D) (hm : ∀ z, z ≠ xt → z ≠ xm → m' z = m z) (hne : xt ≠ xm) :
    GrowEnd Rel h₀ L m xt xm j br nb own R g bl s₁ Q .next { s₁ with heap := h', toks := tk' } :=
  GrowEnd.intro (tl2 := (D, oD) :: tl2) F N (.tail _ P) (.tail _ P2) J hg hR (fun p hp => by
    rcases List.mem_append.mp hp with hp | hp
    · exact .tail _ (hs _ (List.mem_append.mpr (.inl hp)))
    · rcases List.mem_cons.mp hp with rfl | hp
      · exact .head _
      · exact .tail _ (hs _ (List.mem_append.mpr (.inr hp)))) (Fresh.cons hx hr hf) (fun p hp => by
    rcases List.mem_cons.mp hp with rfl | hp
    · exact Nat.ne_of_gt hbD
    · exact hb p hp) hm hne

theorem GrowEnd.intro2 {β : Type} {Rel : Led → Value → β → Prop} {h₀ h' : Heap} {L D D2 : Addr} {oD oD2 : Obj} {m m' : Str → Option Value} {xt xm : Str} {j br : Addr} {nb own R tl2 led : Led} {g g' : Nat} {bl : List Value} {s₁ : Shared} {Q : Flow → Shared → Prop} {tk' : Nat} {o'' : Obj} {kb' : Nat} {b : β}
    (F : Fr h₀ L h' m') (N : News h₀ L h' ((D, oD) :: (j, o'') :: (D2, oD2) :: led)) (P2 : (br, listOf (bl ++ [Value.ref D]).toArray kb') ∈ led) (J : Jar g' R o'') (hg : g ≤ g') (hR : Rel ((D, oD) :: (D2, oD2) :: tl2) (.ref D) b) (hs : ∀ p ∈ nb ++ own ++ tl2, p ∈ led) (hf : Fresh j (nb ++ own) tl2) (hb : Off br tl2)
    (hx : @LT.lt Nat _ j D) (hr : AllLt D (nb ++ own)) (hbD : @LT.lt Nat _ br D) (hx2 : @LT.lt Nat _ j D2) (hr2 : AllLt D2 (nb ++ own)) (hbD2 : @LT.lt Nat _ br D2) (hm : ∀ z, z ≠ xt → z ≠ xm → m' z = m z) (hne : xt ≠ xm) :
    GrowEnd Rel h₀ L m xt xm j br nb own R g bl s₁ Q .next { s₁ with heap := h', toks := tk' } :=
  GrowEnd.intro1 (tl2 := (D2, oD2) :: tl2) F N (.head _) (.tail _ (.tail _ P2)) J hg hR (fun p hp => by
    rcases List.mem_append.mp hp with hp | hp
    · exact .tail _ (.tail _ (hs _ (List.mem_append.mpr (.inl hp))))
    · rcases List.mem_cons.mp hp with rfl | hp
      · exact .tail _ (.head _)
      · exact .tail _ (.tail _ (hs _ (List.mem_append.mpr (.inr hp))))) (Fresh.cons hx2 hr2 hf) (fun p hp => by
    rcases List.mem_cons.mp hp with rfl | hp
    · exact Nat.ne_of_gt hbD2
    · exact hb p hp) hx hr hbD hm hne

theorem for_grow {β : Type} {Rel : Led → Value → β → Prop} {I j br : Addr} {o : Obj} {kb0 : Nat} {nb R : Led} {fp wr : List Addr} {n k g : Nat} {St : Nat → Heap → Prop} {m : Str → Option Value} {xt xm : Str} {pt : Pos} {body : List Stmt} {Q : Flow → Shared → Prop}
    (mono : ∀ a b v x, (∀ p ∈ a, p ∈ b) → Rel a v x → Rel b v x)
    (x : Iter prog w A h₀ env.locals ((j, o) :: (br, listOf ([] : List Value).toArray kb0) :: nb) [] I fp wr n (fun i v => ∃ t, v = .int (i : Int) t) St s₂.heap) (F : Fr h₀ env.locals s₂.heap m) (N : News h₀ env.locals s₂.heap ((j, o) :: (br, listOf ([] : List Value).toArray kb0) :: nb)) (hJ : Jar g R o) (hg : n * k ≤ g) (hjb : j ≠ br) (hne : xt ≠ xm)
    (hkx : env.kindOf xt = some .local) (hpx : (env.scope.kind == .class || (env.scope.kind == .module && env.locals != env.globals)) = false)
    (turn : ∀ i t u1 u2 tl bl kb o' g' own h tk E', k ≤ g' → bl.length < n → Jar g' R o' → Off j tl → Off j own → Off br tl → Off br own → Fr h₀ env.locals h (fun z => if z = xt then some (.int i t) else if z = xt then u1 else if z = xm then u2 else m z) → News h₀ env.locals h ((j, o') :: (br, listOf bl.toArray kb) :: (nb ++ (tl ++ own))) →
      wpAny (model prog w) A (execs body env) (GrowEnd Rel h₀ env.locals m xt xm j br nb (tl ++ own) R (g' - k) bl { s₂ with heap := h, toks := tk } Q) E' { s₂ with heap := h, toks := tk })
    (done : ∀ u1 u2 bl kb tl o' bs h tk, bl.length = n → Paired (Rel tl) bl bs → Jar (g - n * k) R o' → Fresh j nb tl → Off br tl → Fr h₀ env.locals h (fun z => if z = xt then u1 else if z = xm then u2 else m z) → News h₀ env.locals h ((j, o') :: (br, listOf bl.toArray kb) :: (nb ++ tl)) → Q .next { s₂ with heap := h, toks := tk }) :
    ForAt prog w A h₀ env (.Name xt pt) body Q (.ref I) s₂ := by
  refine ⟨I, fp, wr, n, _, St, m, (j, o) :: (br, listOf ([] : List Value).toArray kb0) :: nb, [], fun i m' nx => ∃ u1 u2 o' kb bl tl bs, m' = (fun z => if z = xt then u1 else if z = xm then u2 else m z) ∧ nx = (j, o') :: (br, listOf bl.toArray kb) :: (nb ++ tl) ∧ bl.length = i ∧ Jar (g - i * k) R o' ∧ Fresh j nb tl ∧ Off br tl ∧ Paired (Rel tl) bl bs, rfl, x, F, N, ?_, fun _ _ _ _ p hp => (nomatch hp), fun _ _ _ _ _ _ h => wpAny_pure h, ?_, ?_⟩
  · refine ⟨m xt, m xm, o, kb0, [], [], [], ?_, by rw [List.append_nil], rfl, by rw [Nat.zero_mul]; exact hJ, fresh_nil, List.forall_mem_nil _, .nil⟩
    funext z
    by_cases h1 : z = xt
    · subst h1; simp
    · by_cases h2 : z = xm
      · subst h2; simp [h1]
      · simp [h1, h2]
  · rintro i v m₁ nx own h tk E' hin ⟨t, rfl⟩ ⟨u1, u2, o', kb, bl, tl, bs, rfl, rfl, hlen, hJ', hf, hfb, hp⟩ hown F' N'
    have hk : k ≤ g - i * k := by
      have h1 : (i + 1) * k ≤ n * k := Nat.mul_le_mul_right k hin
      rw [Nat.add_mul, Nat.one_mul] at h1
      omega
    refine wpAny_assign_Name (wpAny_storeName_local hkx F'.ns (fun h₂ hn₂ hs₂ => ?_) hpx)
    have F₂ := F'.set hn₂ hs₂
    have N₂ : News h₀ env.locals h₂ _ := News.set N' hs₂
    refine wpAny_mono (turn i t u1 u2 tl bl kb o' (g - i * k) own h₂ _ E' hk (by omega) hJ' hf.off (fun p hp e => hown p hp (j, o') (.head _) e) hfb (fun p hp e => hown p hp (br, listOf bl.toArray kb) (.tail _ (.head _)) e) F₂ (News.sub N₂ fun p hp => ?_)) (fun f s₃ h₃ => ?_) fun _ _ e => e
    · rcases List.mem_cons.mp hp with rfl | hp
      · exact List.mem_append.mpr (.inl (.head _))
      · rcases List.mem_cons.mp hp with rfl | hp
        · exact List.mem_append.mpr (.inl (.tail _ (.head _)))
        · rcases List.mem_append.mp hp with hp | hp
          · exact List.mem_append.mpr (.inl (.tail _ (.tail _ (List.mem_append.mpr (.inl hp)))))
          · rcases List.mem_append.mp hp with hp | hp
            · exact List.mem_append.mpr (.inl (.tail _ (.tail _ (List.mem_append.mpr (.inr hp)))))
            · exact List.mem_append.mpr (.inr hp)
    · have fin : (∃ h' tk' u1 u2 o'' kb' v tl2 b, s₃ = { ({ s₂ with heap := h₂, toks := tk + 1 } : Shared) with heap := h', toks := tk' } ∧ Fr h₀ env.locals h' (fun z => if z = xt then u1 else if z = xm then u2 else m z) ∧ News h₀ env.locals h' ((j, o'') :: (br, listOf (bl ++ [v]).toArray kb') :: (nb ++ (tl ++ own) ++ tl2)) ∧ Fresh j (nb ++ (tl ++ own)) tl2 ∧ Off br tl2 ∧ Jar (g - i * k - k) R o'' ∧ Rel tl2 v b) →
          LedEnd h₀ env.locals own (fun m' nx => ∃ u1 u2 o' kb bl tl bs, m' = (fun z => if z = xt then u1 else if z = xm then u2 else m z) ∧ nx = (j, o') :: (br, listOf bl.toArray kb) :: (nb ++ tl) ∧ bl.length = i + 1 ∧ Jar (g - (i + 1) * k) R o' ∧ Fresh j nb tl ∧ Off br tl ∧ Paired (Rel tl) bl bs) { s₂ with heap := h, toks := tk } s₃ := by
        rintro ⟨h', tk', v1, v2, o'', kb', v, tl2, b, rfl, F₃, N₃, hf₃, hb₃, hJ₃, hR₃⟩
        refine ⟨h', tk', _, _, (j, o'') :: (br, listOf (bl ++ [v]).toArray kb') :: (nb ++ (tl ++ tl2)), rfl, F₃, N₃, ?_, ?_, ?_, v1, v2, o'', kb', bl ++ [v], tl ++ tl2, bs ++ [b], rfl, rfl, ?_, ?_, ?_, ?_, ?_⟩
        · intro p hp
          rcases List.mem_cons.mp hp with rfl | hp
          · exact .head _
          · refine .tail _ ?_
            rcases List.mem_cons.mp hp with rfl | hp
            · exact .head _
            · refine .tail _ ?_
              rcases List.mem_append.mp hp with hp | hp
              · exact List.mem_append.mpr (.inl (List.mem_append.mpr (.inl hp)))
              · rcases List.mem_append.mp hp with hp | hp
                · exact List.mem_append.mpr (.inl (List.mem_append.mpr (.inr (List.mem_append.mpr (.inl hp)))))
                · exact List.mem_append.mpr (.inr hp)
        · intro p hp
          exact .tail _ (.tail _ (List.mem_append.mpr (.inl (List.mem_append.mpr (.inr (List.mem_append.mpr (.inr hp)))))))
        · intro p hp q hq
          rcases List.mem_cons.mp hq with rfl | hq
          · exact hown p hp (j, o') (.head _)
          · rcases List.mem_cons.mp hq with rfl | hq
            · exact hown p hp (br, listOf bl.toArray kb) (.tail _ (.head _))
            · rcases List.mem_append.mp hq with hq | hq
              · exact hown p hp q (.tail _ (.tail _ (List.mem_append.mpr (.inl hq))))
              · rcases List.mem_append.mp hq with hq | hq
                · exact hown p hp q (.tail _ (.tail _ (List.mem_append.mpr (.inr hq))))
                · exact hf₃.ne p (List.mem_append.mpr (.inr (List.mem_append.mpr (.inr hp)))) q hq
        · rw [List.length_append, List.length_singleton, hlen]
        · have : g - i * k - k = g - (i + 1) * k := by rw [Nat.add_mul, Nat.one_mul]; omega
          rw [← this]; exact hJ₃
        · exact hf.append (hf₃.weak fun p hp => List.mem_append.mpr (.inl hp))
        · intro p hp
          exact (List.mem_append.mp hp).elim (hfb p) (hb₃ p)
        · exact Paired.snoc (PPaired.mono (fun a b h => mono _ _ _ _ (fun p hp => List.mem_append.mpr (.inl hp)) h) hp) (mono _ _ _ _ (fun p hp => List.mem_append.mpr (.inr hp)) hR₃)
      cases f with
      | ret v => exact h₃
      | brk => exact h₃
      | next => exact fin h₃
      | cont => exact fin h₃
  · rintro m₁ nx h tk ⟨u1, u2, o', kb, bl, tl, bs, rfl, rfl, hlen, hJ', hf, hfb, hp⟩ F' N'
    exact done u1 u2 bl kb tl o' bs h tk hlen hp hJ' hf hfb F' N'
end
open PySem PySem.W PySem.Calls PyProof.Rows PySem.Spec

/-! the data that the law builds, as a ledger bears it, with the rows that it earns -/
abbrev tupO (vs : List Value) (n : Nat) : Obj := { cls := .type "tuple", data := .seq vs.toArray n }
abbrev tx (s : String) (t : Tok) : Value := .str (Str.ofString s) t
def Wd (x : Str) : Prop := x = Str.ofString "v" ∨ x = Str.ofString "w" ∨ x = Str.ofString "n" ∨ x = Str.ofString "i" ∨ x = Str.ofString "p" ∨ x = Str.ofString "zz"
abbrev row (k : String) (i : Int) (x : Str) : PyData := .tuple [.str (Str.ofString k), .int i, .str x]
abbrev Rws := List PyData
def idRows (i : Int) (x : Str) : Rws := if x = Str.ofString "zz" then [row "undeclared" i x] else []
def tgRows (i : Int) (x : Str) : Rws :=
  if x = Str.ofString "zz" then [row "undeclared" i x] else if x = Str.ofString "n" then [row "assign_to_net" i x] else if x = Str.ofString "i" then [row "input_assigned" i x] else if x = Str.ofString "p" then [row "constant_assigned" i x] else []

def LeafIn (led : Led) (v : Value) (rows : Rws) : Prop :=
  (∃ a n t0 i t1 x t2, v = .ref a ∧ (a, tupO [tx "id" t0, .int i t1, .str x t2] n) ∈ led ∧ Wd x ∧ rows = idRows i x) ∨
  (∃ a n t0 i t1, v = .ref a ∧ (a, tupO [tx "num" t0, .int i t1, .none] n) ∈ led ∧ rows = [])
def BinIn (led : Led) (R : Value → Rws → Prop) (v : Value) (rows : Rws) : Prop :=
  ∃ a n t0 i t1 t2 l r rl rr, v = .ref a ∧ (a, tupO [tx "bin" t0, .int i t1, tx "+" t2, l, r] n) ∈ led ∧ R l rl ∧ R r rr ∧ rows = rl ++ rr
def CatIn (led : Led) (R : Value → Rws → Prop) (v : Value) (rows : Rws) : Prop :=
  ∃ a n t0 i t1 b nb vs rss, v = .ref a ∧ (a, tupO [tx "cat" t0, .int i t1, .ref b] n) ∈ led ∧ (b, tupO vs nb) ∈ led ∧ vs.length ≤ 2 ∧ Paired R vs rss ∧ rows = rss.flatten
def ExIn (led : Led) : Nat → Value → Rws → Prop
  | 0 => LeafIn led
  | n + 1 => fun v rows => LeafIn led v rows ∨ BinIn led (ExIn led n) v rows ∨ CatIn led (ExIn led n) v rows

theorem Paired.mono {α β : Type} {F G : α → β → Prop} (h : ∀ a b, F a b → G a b) : ∀ {l₁ : List α} {l₂ : List β}, Paired F l₁ l₂ → Paired G l₁ l₂ := by
  intro l₁ l₂ k
  induction k with
  | nil => exact .nil
  | cons a _ ih => exact .cons (h _ _ a) ih

theorem LeafIn.mono {led led' : Led} (hs : ∀ p ∈ led, p ∈ led') {v : Value} {rows : Rws} : LeafIn led v rows → LeafIn led' v rows := by
  rintro (⟨a, n, t0, i, t1, x, t2, e, hm, h⟩ | ⟨a, n, t0, i, t1, e, hm, hr⟩)
  · exact .inl ⟨a, n, t0, i, t1, x, t2, e, hs _ hm, h⟩
  · exact .inr ⟨a, n, t0, i, t1, e, hs _ hm, hr⟩
theorem ExIn.mono {led led' : Led} (hs : ∀ p ∈ led, p ∈ led') : ∀ {n : Nat} {v : Value} {rows : Rws}, ExIn led n v rows → ExIn led' n v rows := by
  intro n
  induction n with
  | zero => exact fun h => LeafIn.mono hs h
  | succ n ih =>
    rintro v rows (h | ⟨a, n, t0, i, t1, t2, l, r, rl, rr, e, hm, h1, h2, hr⟩ | ⟨a, n, t0, i, t1, b, nb, vs, rss, e, hm, hb, hl, hp, hr⟩)
    · exact .inl (LeafIn.mono hs h)
    · exact .inr (.inl ⟨a, n, t0, i, t1, t2, l, r, rl, rr, e, hs _ hm, ih h1, ih h2, hr⟩)
    · exact .inr (.inr ⟨a, n, t0, i, t1, b, nb, vs, rss, e, hs _ hm, hs _ hb, hl, hp.mono fun _ _ h => ih h, hr⟩)

theorem ExIn.up {led led' : Led} {n : Nat} {v : Value} {rows : Rws} (h : ExIn led n v rows) (hs : ∀ p ∈ led, p ∈ led') : ExIn led' n v rows := h.mono hs

def SetIn (led : Led) (v : Value) (rows : Bool → Rws) : Prop :=
  ∃ a n t0 i t1 b nb t2 i2 t3 x t4 e re, v = .ref a ∧ (a, tupO [tx "set" t0, .int i t1, .ref b, e, .none] n) ∈ led ∧ (b, tupO [tx "id" t2, .int i2 t3, .str x t4] nb) ∈ led ∧ Wd x ∧ ExIn led 1 e re ∧ rows = fun _ => tgRows i2 x ++ re
def DelayIn (led : Led) (R : Value → (Bool → Rws) → Prop) (v : Value) (rows : Bool → Rws) : Prop :=
  ∃ a n t0 i t1 e re st rs, v = .ref a ∧ (a, tupO [tx "delay" t0, .int i t1, e, st] n) ∈ led ∧ ExIn led 1 e re ∧ R st rs ∧ rows = fun w => (if w then [] else [row "timing_in_function" i (Str.ofString "")]) ++ re ++ rs w
def BranchIn (led : Led) (R : Value → (Bool → Rws) → Prop) (v : Value) (d : Bool × (Bool → Rws)) : Prop :=
  ∃ a n mk st rs, v = .ref a ∧ (a, tupO [mk, st] n) ∈ led ∧ R st rs ∧
    ((mk = .none ∧ d = (true, rs)) ∨ ∃ b nb vs rss, mk = .ref b ∧ (b, tupO vs nb) ∈ led ∧ vs.length ≤ 2 ∧ Paired (ExIn led 1) vs rss ∧ d = (false, fun w => rss.flatten ++ rs w))
def caseRows (i : Int) (r0 : Rws) (ds : List (Bool × (Bool → Rws))) (w : Bool) : Rws :=
  r0 ++ (ds.map fun d => d.2 w).flatten ++ (if 1 < (ds.filter (·.1)).length then [row "default_twice" i (Str.ofString "")] else [])
def CaseIn (led : Led) (R : Value → (Bool → Rws) → Prop) (v : Value) (rows : Bool → Rws) : Prop :=
  ∃ a n t0 i t1 k sb r0 b nb vs ds, v = .ref a ∧ (a, tupO [tx "case" t0, .int i t1, k, sb, .ref b] n) ∈ led ∧ ExIn led 1 sb r0 ∧ (b, tupO vs nb) ∈ led ∧ vs.length ≤ 4 ∧ Paired (BranchIn led R) vs ds ∧ rows = caseRows i r0 ds
def StIn (led : Led) : Nat → Value → (Bool → Rws) → Prop
  | 0 => SetIn led
  | n + 1 => fun v rows => SetIn led v rows ∨ (v = .none ∧ rows = fun _ => []) ∨ DelayIn led (StIn led n) v rows ∨ CaseIn led (StIn led n) v rows

theorem SetIn.mono {led led' : Led} (hs : ∀ p ∈ led, p ∈ led') {v : Value} {rows : Bool → Rws} : SetIn led v rows → SetIn led' v rows := by
  rintro ⟨a, n, t0, i, t1, b, nb, t2, i2, t3, x, t4, e, re, h1, h2, h3, h4, h5, h6⟩
  exact ⟨a, n, t0, i, t1, b, nb, t2, i2, t3, x, t4, e, re, h1, hs _ h2, hs _ h3, h4, h5.mono hs, h6⟩
theorem DelayIn.mono {led led' : Led} (hs : ∀ p ∈ led, p ∈ led') {R R' : Value → (Bool → Rws) → Prop} (hR : ∀ v r, R v r → R' v r) {v : Value} {rows : Bool → Rws} : DelayIn led R v rows → DelayIn led' R' v rows := by
  rintro ⟨a, n, t0, i, t1, e, re, st, rs, h1, h2, h3, h4, h5⟩
  exact ⟨a, n, t0, i, t1, e, re, st, rs, h1, hs _ h2, h3.mono hs, hR _ _ h4, h5⟩
theorem BranchIn.mono {led led' : Led} (hs : ∀ p ∈ led, p ∈ led') {R R' : Value → (Bool → Rws) → Prop} (hR : ∀ v r, R v r → R' v r) {v : Value} {d : Bool × (Bool → Rws)} : BranchIn led R v d → BranchIn led' R' v d := by
  rintro ⟨a, n, mk, st, rs, h1, h2, h3, h | ⟨b, nb, vs, rss, h4, h5, h6, h7, h8⟩⟩
  · exact ⟨a, n, mk, st, rs, h1, hs _ h2, hR _ _ h3, .inl h⟩
  exact ⟨a, n, mk, st, rs, h1, hs _ h2, hR _ _ h3, .inr ⟨b, nb, vs, rss, h4, hs _ h5, h6, h7.mono fun _ _ h => h.mono hs, h8⟩⟩
theorem CaseIn.mono {led led' : Led} (hs : ∀ p ∈ led, p ∈ led') {R R' : Value → (Bool → Rws) → Prop} (hR : ∀ v r, R v r → R' v r) {v : Value} {rows : Bool → Rws} : CaseIn led R v rows → CaseIn led' R' v rows := by
  rintro ⟨a, n, t0, i, t1, k, sb, r0, b, nb, vs, ds, h1, h2, h3, h4, h5, h6, h7⟩
  exact ⟨a, n, t0, i, t1, k, sb, r0, b, nb, vs, ds, h1, hs _ h2, h3.mono hs, hs _ h4, h5, h6.mono fun _ _ h => h.mono hs hR, h7⟩
theorem StIn.mono {led led' : Led} (hs : ∀ p ∈ led, p ∈ led') : ∀ {n : Nat} {v : Value} {rows : Bool → Rws}, StIn led n v rows → StIn led' n v rows := by
  intro n
  induction n with
  | zero => exact fun h => SetIn.mono hs h
  | succ n ih =>
    rintro v rows (h | h | h | h)
    · exact .inl (SetIn.mono hs h)
    · exact .inr (.inl h)
    · exact .inr (.inr (.inl (DelayIn.mono hs (fun _ _ h => ih h) h)))
    · exact .inr (.inr (.inr (CaseIn.mono hs (fun _ _ h => ih h) h)))
open PySem PySem.W PySem.Calls PyProof.Rows PySem.Spec

theorem MDoes.weak {w : World} {f : Addr} {c c' : Nat} {args : List Value} {x : Addr} {rest : Led} {Pre : Obj → Prop} {Post Post' : Value → Obj → Led → Prop} (h : MDoes w f c args x rest Pre Post) (hc : c ≤ c') (hP : ∀ r o tl, Post r o tl → Post' r o tl) : MDoes w f c' args x rest Pre Post' := by
  intro o hp ho dp un gd env outer A₀ base h₀ L m mean mg mb s Q E HA hd hu hret
  exact h o hp ho dp un gd env outer A₀ base h₀ L m mean mg mb s Q E HA (by omega) (by omega) fun r post h' tk' F' N' ⟨o', tl, e, hf, hQ⟩ => hret r post h' tk' F' N' ⟨o', tl, e, hf, hP _ _ _ hQ⟩

def StmtC (w : World) (d : Int) (n c f : Nat) : Prop :=
  ∀ (j : Addr) (g : Nat) (rest R : Led) (t : Tok), (∀ p ∈ R, p ∈ rest) → f ≤ g → MDoes w 273 c [.ref j, .int d t] j rest (Jar g R) (fun r o' tl => Jar (g - f) R o' ∧ ∃ rows, StIn tl n r rows)
def CaseC (w : World) (d : Int) (n c f : Nat) : Prop :=
  ∀ (j : Addr) (g : Nat) (rest R : Led) (t : Tok), (∀ p ∈ R, p ∈ rest) → f ≤ g → MDoes w 278 c [.ref j, .int d t] j rest (Jar g R) (fun r o' tl => Jar (g - f) R o' ∧ ∃ rows, CaseIn tl (StIn tl n) r rows)

theorem StmtC.weak {w : World} {d : Int} {n c f c' f' : Nat} (h : StmtC w d n c f) (hc : c ≤ c') (hf : f ≤ f') : StmtC w d n c' f' :=
  fun j g rest R t hR hg => (h j g rest R t hR (by omega)).weak hc fun _ _ _ ⟨J, x⟩ => ⟨J.less (by omega), x⟩
theorem CaseC.weak {w : World} {d : Int} {n c f c' f' : Nat} (h : CaseC w d n c f) (hc : c ≤ c') (hf : f ≤ f') : CaseC w d n c' f' :=
  fun j g rest R t hR hg => (h j g rest R t hR (by omega)).weak hc fun _ _ _ ⟨J, x⟩ => ⟨J.less (by omega), x⟩
theorem StmtC.use {w : World} {d : Int} {n c f : Nat} {j : Addr} {g : Nat} {rest R : Led} {t : Tok} (h : StmtC w d n c f) (hR : ∀ p ∈ R, p ∈ rest) (hg : f ≤ g) :
    MDoes w 273 c [.ref j, .int d t] j rest (Jar g R) (fun r o' tl => Jar (g - f) R o' ∧ ∃ rows, StIn tl n r rows) := h j g rest R t hR hg
theorem CaseC.use {w : World} {d : Int} {n c f : Nat} {j : Addr} {g : Nat} {rest R : Led} {t : Tok} (h : CaseC w d n c f) (hR : ∀ p ∈ R, p ∈ rest) (hg : f ≤ g) :
    MDoes w 278 c [.ref j, .int d t] j rest (Jar g R) (fun r o' tl => Jar (g - f) R o' ∧ ∃ rows, CaseIn tl (StIn tl n) r rows) := h j g rest R t hR hg
theorem StIn.up {led led' : Led} {n : Nat} {v : Value} {rows : Bool → Rws} (h : StIn led n v rows) (hs : ∀ p ∈ led, p ∈ led') : StIn led' n v rows := h.mono hs

theorem MDoes.fin2x {x D D2 : Addr} {oD oD2 o' : Obj} {rest led : Led} {Post : Value → Obj → Led → Prop} {h₀ h' : Heap} {L : Addr} {m : Str → Option Value} {s : Shared} {Q : Value → Shared → Prop} {tk' : Nat}
    (hret : ∀ r post h' tk', Fr h₀ L h' m → News h₀ L h' post → (∃ o' tl, post = (x, o') :: (rest ++ tl) ∧ Fresh x rest tl ∧ Post r o' tl) → Q r { s with heap := h', toks := tk' })
    (F' : Fr h₀ L h' m) (N' : News h₀ L h' ((D, oD) :: (x, o') :: (D2, oD2) :: led)) {tl : Led} (hs : ∀ p ∈ rest ++ tl, p ∈ led) (hx : @LT.lt Nat _ x D) (hr : AllLt D (rest ++ tl)) (hx2 : @LT.lt Nat _ x D2) (hr2 : AllLt D2 rest) (hf : Fresh x rest tl)
    (hP : Post (.ref D) o' ((D, oD) :: (D2, oD2) :: tl)) : Q (.ref D) { s with heap := h', toks := tk' } :=
  MDoes.fin hret F' N' o' ((D, oD) :: (D2, oD2) :: tl) (fun p hp => by
    rcases List.mem_cons.mp hp with rfl | hp
    · exact .tail _ (.head _)
    · rcases List.mem_append.mp hp with hp | hp
      · exact .tail _ (.tail _ (.tail _ (hs _ (List.mem_append.mpr (.inl hp)))))
      · rcases List.mem_cons.mp hp with rfl | hp
        · exact .head _
        · rcases List.mem_cons.mp hp with rfl | hp
          · exact .tail _ (.tail _ (.head _))
          · exact .tail _ (.tail _ (.tail _ (hs _ (List.mem_append.mpr (.inr hp)))))) (Fresh.cons hx (allLt_left hr) (Fresh.cons hx2 hr2 hf)) hP
open PySem PySem.W PySem.Calls PyProof.Rows PySem.Spec
theorem frag_on3 : (hdS.heap_1 = hdS.heap_1 ∧ PySem.Challenge.rw_on0122_01 = PySem.Challenge.rw_on0122_01) := by
  k_fill
  exact ⟨rfl, rfl⟩

set_option maxHeartbeats 4000000 in
theorem word {w : World} {j : Addr} {g : Nat} {rest R : Led} (hR : ∀ p ∈ R, p ∈ rest) (hg : 1 ≤ g) :
    MDoes w 261 2 [.ref j] j rest (Jar g R) (fun r o' tl => tl = [] ∧ Jar (g - 1) R o' ∧ ∃ x t, r = .str x t ∧ Wd x) := by
  intro o hJ ho dp un gd env outer A₀ base h₀ L m mean mg mb s Q E HA hd hu hret
  obtain ⟨B, F, X, N, T, fr, kd⟩ := HA
  refine wpAny_call ?_
  k_dflt ktr_enter
  (repeat' (first | ((with_reducible show wpAny _ _ _ _ _ (Shared.mk _ _ _ (_ + 1 + 1) _)); (refine forgetT ?_); (intro tk9); (try dsimp only)) | ((with_reducible show wpAny _ _ (PySem.exec _ _) _ _ _); ((fail_if_success (refine' hidden_test ?hQ ?_; (case hQ => with_reducible assumption))); (refine' hideQ ?_); (intro Q9 hQ9))) | (k_unfold; (try dsimp only)) | (k_end; wrow_close) | ((with_reducible show wpAny _ _ (call _ _ _) _ _ _); (first | with_reducible (k_here; (with_reducible show wpAny _ _ (call (Value.ref 254) [Value.ref _] _) _ _ _); k_dflt (refine' MDoes.use ?k1 ?k2 ?k3 ?k4 ?k5 ?k6 ?k7 ?kP (spot ?h0) ?kJ ?kO ?kd ?ku ?_; (case k1 => k_asm); (case k2 => k_asm); (case k3 => k_asm); (case k4 => k_asm); (case k5 => k_asm); (case k6 => first | exact rfl | assumption); (case k7 => first | exact rfl | assumption); (case kP => repeat (first | exact Pick.head | apply Pick.tail)); (case kJ => assumption); (case h0 => tb_start); (case kO => k_all); (case kd => (try dsimp only [Around.deeper]); omega); (case ku => (try dsimp only [Around.deeper]); omega)); (intro r' o' tl' h' tk' F' N' hf' ho' hP'); (obtain ⟨e1', J', i', t', e2'⟩ := hP'); (subst e1'); (subst e2'); (try simp only [List.nil_append, List.cons_append, List.append_nil, List.append_assoc] at N'); (try k_sweep); (try dsimp only); (try k_fold)) | with_reducible (k_here; (with_reducible show wpAny _ _ (call (Value.ref 247) [Value.ref _, Value.int _ _] _) _ _ _); k_dflt (refine' MDoes.use ?k1 ?k2 ?k3 ?k4 ?k5 ?k6 ?k7 ?kP (draw ?h0 ?h1 ?h2 ?h3) ?kJ ?kO ?kd ?ku ?_; (case k1 => k_asm); (case k2 => k_asm); (case k3 => k_asm); (case k4 => k_asm); (case k5 => k_asm); (case k6 => first | exact rfl | assumption); (case k7 => first | exact rfl | assumption); (case kP => repeat (first | exact Pick.head | apply Pick.tail)); (case kJ => assumption); (case h0 => tb_start); (case h1 => omega); (case h2 => omega); (case h3 => omega); (case kO => k_all); (case kd => (try dsimp only [Around.deeper]); omega); (case ku => (try dsimp only [Around.deeper]); omega)); (intro r' o' tl' h' tk' F' N' hf' ho' hP'); (obtain ⟨e1', J', i', t', e2', hlo', hhi'⟩ := hP'); (subst e1'); (subst e2'); (try simp only [List.nil_append, List.cons_append, List.append_nil, List.append_assoc] at N'); (try k_sweep); (try dsimp only); (try k_fold)))) | walk1 | ((refine' Hid.use ?hQ ?_); (case hQ => with_reducible assumption); (try dsimp only)) | dsimp only | (leave1; (try dsimp only)) | fail "no step"))
  rename Int => ii
  have h7 : ii = 0 ∨ ii = 1 ∨ ii = 2 ∨ ii = 3 ∨ ii = 4 ∨ ii = 5 ∨ ii = 6 := by omega
  rcases h7 with rfl | rfl | rfl | rfl | rfl | rfl | rfl
  all_goals (repeat' (first | ((with_reducible show wpAny _ _ _ _ _ (Shared.mk _ _ _ (_ + 1 + 1) _)); (refine forgetT ?_); (intro tk9); (try dsimp only)) | ((with_reducible show wpAny _ _ (PySem.exec _ _) _ _ _); ((fail_if_success (refine' hidden_test ?hQ ?_; (case hQ => with_reducible assumption))); (refine' hideQ ?_); (intro Q9 hQ9))) | (k_unfold; (try dsimp only)) | (k_end; wrow_close) | ((with_reducible show wpAny _ _ (call _ _ _) _ _ _); (first | with_reducible (k_here; (with_reducible show wpAny _ _ (call (Value.ref 254) [Value.ref _] _) _ _ _); k_dflt (refine' MDoes.use ?k1 ?k2 ?k3 ?k4 ?k5 ?k6 ?k7 ?kP (spot ?h0) ?kJ ?kO ?kd ?ku ?_; (case k1 => k_asm); (case k2 => k_asm); (case k3 => k_asm); (case k4 => k_asm); (case k5 => k_asm); (case k6 => first | exact rfl | assumption); (case k7 => first | exact rfl | assumption); (case kP => repeat (first | exact Pick.head | apply Pick.tail)); (case kJ => assumption); (case h0 => tb_start); (case kO => k_all); (case kd => (try dsimp only [Around.deeper]); omega); (case ku => (try dsimp only [Around.deeper]); omega)); (intro r' o' tl' h' tk' F' N' hf' ho' hP'); (obtain ⟨e1', J', i', t', e2'⟩ := hP'); (subst e1'); (subst e2'); (try simp only [List.nil_append, List.cons_append, List.append_nil, List.append_assoc] at N'); (try k_sweep); (try dsimp only); (try k_fold)) | with_reducible (k_here; (with_reducible show wpAny _ _ (call (Value.ref 247) [Value.ref _, Value.int _ _] _) _ _ _); k_dflt (refine' MDoes.use ?k1 ?k2 ?k3 ?k4 ?k5 ?k6 ?k7 ?kP (draw ?h0 ?h1 ?h2 ?h3) ?kJ ?kO ?kd ?ku ?_; (case k1 => k_asm); (case k2 => k_asm); (case k3 => k_asm); (case k4 => k_asm); (case k5 => k_asm); (case k6 => first | exact rfl | assumption); (case k7 => first | exact rfl | assumption); (case kP => repeat (first | exact Pick.head | apply Pick.tail)); (case kJ => assumption); (case h0 => tb_start); (case h1 => omega); (case h2 => omega); (case h3 => omega); (case kO => k_all); (case kd => (try dsimp only [Around.deeper]); omega); (case ku => (try dsimp only [Around.deeper]); omega)); (intro r' o' tl' h' tk' F' N' hf' ho' hP'); (obtain ⟨e1', J', i', t', e2', hlo', hhi'⟩ := hP'); (subst e1'); (subst e2'); (try simp only [List.nil_append, List.cons_append, List.append_nil, List.append_assoc] at N'); (try k_sweep); (try dsimp only); (try k_fold)))) | walk1 | ((refine' Hid.use ?hQ ?_); (case hQ => with_reducible assumption); (try dsimp only)) | dsimp only | (leave1; (try dsimp only)) | fail "no step"))
  all_goals (rename Obj => oo; refine' MDoes.fin hret ?F ?N oo [] ?S fresh_nil ⟨rfl, ?J, _, _, rfl, ?W⟩; (case F => assumption); (case N => assumption); (case S => (rw [List.append_nil]; ktd_sub)); (case J => assumption); (case W => simp only [Wd, true_or, or_true]))
open PySem PySem.W PySem.Calls PyProof.Rows PySem.Spec
theorem frag_on6 : (hdS.heap_1 = hdS.heap_1 ∧ PySem.Challenge.rw_on0122_01 = PySem.Challenge.rw_on0122_01) := by
  k_fill
  exact ⟨rfl, rfl⟩

set_option maxHeartbeats 8000000 in
theorem expr0 {w : World} {j : Addr} {g : Nat} {rest R : Led} {t : Tok} (hR : ∀ p ∈ R, p ∈ rest) (hg : 2 ≤ g) :
    MDoes w 266 3 [.ref j, .int 0 t] j rest (Jar g R) (fun r o' tl => Jar (g - 2) R o' ∧ ∃ rows, ExIn tl 0 r rows) := by
  intro o hJ ho dp un gd env outer A₀ base h₀ L m mean mg mb s Q E HA hd hu hret
  obtain ⟨B, F, X, N, T, fr, kd⟩ := HA
  refine wpAny_call ?_
  k_dflt ktr_enter
  (repeat' (first | ((with_reducible show wpAny _ _ _ _ _ (Shared.mk _ _ _ (_ + 1 + 1) _)); (refine forgetT ?_); (intro tk9); (try dsimp only)) | ((with_reducible show wpAny _ _ (PySem.exec _ _) _ _ _); ((fail_if_success (refine' hidden_test ?hQ ?_; (case hQ => with_reducible assumption))); (refine' hideQ ?_); (intro Q9 hQ9))) | (k_unfold; (try dsimp only)) | (k_end; wrow_close) | ((with_reducible show wpAny _ _ (call _ _ _) _ _ _); (first | with_reducible (k_here; (with_reducible show wpAny _ _ (call (Value.ref 261) [Value.ref _] _) _ _ _); k_dflt (refine' MDoes.use ?k1 ?k2 ?k3 ?k4 ?k5 ?k6 ?k7 ?kP (word ?h0 ?h1) ?kJ ?kO ?kd ?ku ?_; (case k1 => k_asm); (case k2 => k_asm); (case k3 => k_asm); (case k4 => k_asm); (case k5 => k_asm); (case k6 => first | exact rfl | assumption); (case k7 => first | exact rfl | assumption); (case kP => repeat (first | exact Pick.head | apply Pick.tail)); (case kJ => assumption); (case h0 => tb_start); (case h1 => omega); (case kO => k_all); (case kd => (try dsimp only [Around.deeper]); omega); (case ku => (try dsimp only [Around.deeper]); omega)); (intro r' o' tl' h' tk' F' N' hf' ho' hP'); (obtain ⟨e1', J', x', t', e2', hw'⟩ := hP'); (subst e1'); (subst e2'); (try simp only [List.nil_append, List.cons_append, List.append_nil, List.append_assoc] at N'); (try k_sweep); (try dsimp only); (try k_fold)) | with_reducible (k_here; (with_reducible show wpAny _ _ (call (Value.ref 254) [Value.ref _] _) _ _ _); k_dflt (refine' MDoes.use ?k1 ?k2 ?k3 ?k4 ?k5 ?k6 ?k7 ?kP (spot ?h0) ?kJ ?kO ?kd ?ku ?_; (case k1 => k_asm); (case k2 => k_asm); (case k3 => k_asm); (case k4 => k_asm); (case k5 => k_asm); (case k6 => first | exact rfl | assumption); (case k7 => first | exact rfl | assumption); (case kP => repeat (first | exact Pick.head | apply Pick.tail)); (case kJ => assumption); (case h0 => tb_start); (case kO => k_all); (case kd => (try dsimp only [Around.deeper]); omega); (case ku => (try dsimp only [Around.deeper]); omega)); (intro r' o' tl' h' tk' F' N' hf' ho' hP'); (obtain ⟨e1', J', i', t', e2'⟩ := hP'); (subst e1'); (subst e2'); (try simp only [List.nil_append, List.cons_append, List.append_nil, List.append_assoc] at N'); (try k_sweep); (try dsimp only); (try k_fold)) | with_reducible (k_here; (with_reducible show wpAny _ _ (call (Value.ref 247) [Value.ref _, Value.int _ _] _) _ _ _); k_dflt (refine' MDoes.use ?k1 ?k2 ?k3 ?k4 ?k5 ?k6 ?k7 ?kP (draw ?h0 ?h1 ?h2 ?h3) ?kJ ?kO ?kd ?ku ?_; (case k1 => k_asm); (case k2 => k_asm); (case k3 => k_asm); (case k4 => k_asm); (case k5 => k_asm); (case k6 => first | exact rfl | assumption); (case k7 => first | exact rfl | assumption); (case kP => repeat (first | exact Pick.head | apply Pick.tail)); (case kJ => assumption); (case h0 => tb_start); (case h1 => omega); (case h2 => omega); (case h3 => omega); (case kO => k_all); (case kd => (try dsimp only [Around.deeper]); omega); (case ku => (try dsimp only [Around.deeper]); omega)); (intro r' o' tl' h' tk' F' N' hf' ho' hP'); (obtain ⟨e1', J', i', t', e2', hlo', hhi'⟩ := hP'); (subst e1'); (subst e2'); (try simp only [List.nil_append, List.cons_append, List.append_nil, List.append_assoc] at N'); (try k_sweep); (try dsimp only); (try k_fold)))) | walk1 | ((refine' Hid.use ?hQ ?_); (case hQ => with_reducible assumption); (try dsimp only)) | dsimp only | (leave1; (try dsimp only)) | fail "no step"))
  any_goals (exfalso; omega)
  · rename Obj => oo
    refine' MDoes.fin1 (tl := []) hret ?F ?N oo ?S ?X ?R fresh_nil ⟨?J, ?E⟩
    case F => assumption
    case N => assumption
    case S => (rw [List.append_nil]; ktd_sub)
    case X => omega
    case R => (rw [List.append_nil]; tbn_find)
    case J => exact Jar.less (by assumption) (by omega)
    case E => exact ⟨_, .inl ⟨_, _, _, _, _, _, _, rfl, .head _, by assumption, rfl⟩⟩
  · rename Obj => oo
    refine' MDoes.fin1 (tl := []) hret ?F ?N oo ?S ?X ?R fresh_nil ⟨?J, ?E⟩
    case F => assumption
    case N => assumption
    case S => (rw [List.append_nil]; ktd_sub)
    case X => omega
    case R => (rw [List.append_nil]; tbn_find)
    case J => exact Jar.less (by assumption) (by omega)
    case E => exact ⟨_, .inr ⟨_, _, _, _, _, rfl, .head _, rfl⟩⟩
open PySem PySem.W PySem.Calls PyProof.Rows PySem.Spec
theorem frag_on7 : (hdS.heap_1 = hdS.heap_1 ∧ PySem.Challenge.rw_on0122_01 = PySem.Challenge.rw_on0122_01) := by
  k_fill
  exact ⟨rfl, rfl⟩

set_option maxHeartbeats 8000000 in
theorem expr1 {w : World} {j : Addr} {g : Nat} {rest R : Led} {t : Tok} (hR : ∀ p ∈ R, p ∈ rest) (hg : 6 ≤ g) :
    MDoes w 266 4 [.ref j, .int 1 t] j rest (Jar g R) (fun r o' tl => Jar (g - 6) R o' ∧ ∃ rows, ExIn tl 1 r rows) := by
  intro o hJ ho dp un gd env outer A₀ base h₀ L m mean mg mb s Q E HA hd hu hret
  obtain ⟨B, F, X, N, T, fr, kd⟩ := HA
  refine wpAny_call ?_
  k_dflt ktr_enter
  (repeat' (first | ((with_reducible show wpAny _ _ _ _ _ (Shared.mk _ _ _ (_ + 1 + 1) _)); (refine forgetT ?_); (intro tk9); (try dsimp only)) | ((with_reducible show wpAny _ _ (PySem.exec _ _) _ _ _); ((fail_if_success (refine' hidden_test ?hQ ?_; (case hQ => with_reducible assumption))); (refine' hideQ ?_); (intro Q9 hQ9))) | (k_unfold; (try dsimp only)) | (k_end; wrow_close) | ((with_reducible show wpAny _ _ (call _ _ _) _ _ _); (first | with_reducible (k_here; (with_reducible show wpAny _ _ (call (Value.type _) [Value.ref _]) _ _ _); k_dflt (refine' tuple_led ?k1 ?k2 ?k3 ?k4 ?_; (case k1 => k_asm); (case k2 => k_asm); (case k3 => k_mem); (case k4 => omega)); intro D' h' F' N' l1; (try k_lt l1); (try k_sweep)) | with_reducible (k_here; (with_reducible show wpAny _ _ (call (Value.ref 266) [Value.ref _, Value.int _ _] _) _ _ _); k_dflt (refine' MDoes.use ?k1 ?k2 ?k3 ?k4 ?k5 ?k6 ?k7 ?kP (expr0 ?h0 ?h1) ?kJ ?kO ?kd ?ku ?_; (case k1 => k_asm); (case k2 => k_asm); (case k3 => k_asm); (case k4 => k_asm); (case k5 => k_asm); (case k6 => first | exact rfl | assumption); (case k7 => first | exact rfl | assumption); (case kP => repeat (first | exact Pick.head | apply Pick.tail)); (case kJ => assumption); (case h0 => tb_start); (case h1 => omega); (case kO => k_all); (case kd => (try dsimp only [Around.deeper]); omega); (case ku => (try dsimp only [Around.deeper]); omega)); (intro r' o' tl' h' tk' F' N' hf' ho' hP'); (obtain ⟨J', rws', hE'⟩ := hP'); (try simp only [List.nil_append, List.cons_append, List.append_nil, List.append_assoc] at N'); (try k_sweep); (try dsimp only); (try k_fold)) | with_reducible (k_here; (with_reducible show wpAny _ _ (call (Value.ref 261) [Value.ref _] _) _ _ _); k_dflt (refine' MDoes.use ?k1 ?k2 ?k3 ?k4 ?k5 ?k6 ?k7 ?kP (word ?h0 ?h1) ?kJ ?kO ?kd ?ku ?_; (case k1 => k_asm); (case k2 => k_asm); (case k3 => k_asm); (case k4 => k_asm); (case k5 => k_asm); (case k6 => first | exact rfl | assumption); (case k7 => first | exact rfl | assumption); (case kP => repeat (first | exact Pick.head | apply Pick.tail)); (case kJ => assumption); (case h0 => tb_start); (case h1 => omega); (case kO => k_all); (case kd => (try dsimp only [Around.deeper]); omega); (case ku => (try dsimp only [Around.deeper]); omega)); (intro r' o' tl' h' tk' F' N' hf' ho' hP'); (obtain ⟨e1', J', x', t', e2', hw'⟩ := hP'); (subst e1'); (subst e2'); (try simp only [List.nil_append, List.cons_append, List.append_nil, List.append_assoc] at N'); (try k_sweep); (try dsimp only); (try k_fold)) | with_reducible (k_here; (with_reducible show wpAny _ _ (call (Value.ref 254) [Value.ref _] _) _ _ _); k_dflt (refine' MDoes.use ?k1 ?k2 ?k3 ?k4 ?k5 ?k6 ?k7 ?kP (spot ?h0) ?kJ ?kO ?kd ?ku ?_; (case k1 => k_asm); (case k2 => k_asm); (case k3 => k_asm); (case k4 => k_asm); (case k5 => k_asm); (case k6 => first | exact rfl | assumption); (case k7 => first | exact rfl | assumption); (case kP => repeat (first | exact Pick.head | apply Pick.tail)); (case kJ => assumption); (case h0 => tb_start); (case kO => k_all); (case kd => (try dsimp only [Around.deeper]); omega); (case ku => (try dsimp only [Around.deeper]); omega)); (intro r' o' tl' h' tk' F' N' hf' ho' hP'); (obtain ⟨e1', J', i', t', e2'⟩ := hP'); (subst e1'); (subst e2'); (try simp only [List.nil_append, List.cons_append, List.append_nil, List.append_assoc] at N'); (try k_sweep); (try dsimp only); (try k_fold)) | with_reducible (k_here; (with_reducible show wpAny _ _ (call (Value.ref 247) [Value.ref _, Value.int _ _] _) _ _ _); k_dflt (refine' MDoes.use ?k1 ?k2 ?k3 ?k4 ?k5 ?k6 ?k7 ?kP (draw ?h0 ?h1 ?h2 ?h3) ?kJ ?kO ?kd ?ku ?_; (case k1 => k_asm); (case k2 => k_asm); (case k3 => k_asm); (case k4 => k_asm); (case k5 => k_asm); (case k6 => first | exact rfl | assumption); (case k7 => first | exact rfl | assumption); (case kP => repeat (first | exact Pick.head | apply Pick.tail)); (case kJ => assumption); (case h0 => tb_start); (case h1 => omega); (case h2 => omega); (case h3 => omega); (case kO => k_all); (case kd => (try dsimp only [Around.deeper]); omega); (case ku => (try dsimp only [Around.deeper]); omega)); (intro r' o' tl' h' tk' F' N' hf' ho' hP'); (obtain ⟨e1', J', i', t', e2', hlo', hhi'⟩ := hP'); (subst e1'); (subst e2'); (try simp only [List.nil_append, List.cons_append, List.append_nil, List.append_assoc] at N'); (try k_sweep); (try dsimp only); (try k_fold)))) | ((with_reducible show wpAny _ _ (PySem.eval (PySem.Expr.ListComp _ _ _ _) _) _ _ _); (k_here; refine' comp_led ?kh ?c1 ?c2 ?c3 ?c4 ?c5 ?_ ?c6; (case kh => k_asm); (case c1 => with_unfolding_all rfl); (case c2 => decide); (case c3 => with_unfolding_all rfl); (case c4 => decide); (case c5 => with_unfolding_all rfl); (case c6 => intro _; with_unfolding_all rfl))) | walk1 | ((refine' Hid.use ?hQ ?_); (case hQ => with_reducible assumption); (try dsimp only)) | dsimp only | (leave1; (try dsimp only)) | fail "no step"))
  · rename Obj => oo
    refine' MDoes.fin1 (tl := []) hret ?F ?N oo ?S ?X ?R fresh_nil ⟨?J, ?E⟩
    case F => assumption
    case N => assumption
    case S => (rw [List.append_nil]; ktd_sub)
    case X => omega
    case R => (rw [List.append_nil]; tbn_find)
    case J => exact Jar.less (by assumption) (by omega)
    case E => exact ⟨_, .inl (.inl ⟨_, _, _, _, _, _, _, rfl, .head _, by assumption, rfl⟩)⟩
  · rename Obj => oo
    refine' MDoes.fin1 (tl := []) hret ?F ?N oo ?S ?X ?R fresh_nil ⟨?J, ?E⟩
    case F => assumption
    case N => assumption
    case S => (rw [List.append_nil]; ktd_sub)
    case X => omega
    case R => (rw [List.append_nil]; tbn_find)
    case J => exact Jar.less (by assumption) (by omega)
    case E => exact ⟨_, .inl (.inr ⟨_, _, _, _, _, rfl, .head _, rfl⟩)⟩
  · rename Obj => oo
    refine' MDoes.fin1 hret ?F ?N oo ?S ?X ?R ?H ⟨?J, ?E⟩
    case F => assumption
    case N => assumption
    case R => tbn_find
    case S => tb_start
    case X => omega
    case H => tb_rel
    case J => exact Jar.less (by assumption) (by omega)
    case E => exact ⟨_, .inr (.inl ⟨_, _, _, _, _, _, _, _, _, _, rfl, .head _, ExIn.up (by assumption) (by tb_start), ExIn.up (by assumption) (by tb_start), rfl⟩)⟩
  · refine iter_range rfl (by assumption) (by omega) (by omega) (by assumption) (by assumption) ?_
    intro I St h1 F1 N1 hI
    refine comp_jar (Rel := fun tl v rows => ExIn tl 0 v rows) (fun _ _ _ _ hs h => h.mono hs) (k := 2) hI (by omega) F1 N1 (by assumption) (by omega) ?_ ?_
    · intro tl o1 g1 own h2 tk2 C E' hk J1 ho1 ho2 F2 N2
      simp only [List.cons_append] at N2
      (repeat' (first | ((with_reducible show wpAny _ _ _ _ _ (Shared.mk _ _ _ (_ + 1 + 1) _)); (refine forgetT ?_); (intro tk9); (try dsimp only)) | ((with_reducible show wpAny _ _ (PySem.exec _ _) _ _ _); ((fail_if_success (refine' hidden_test ?hQ ?_; (case hQ => with_reducible assumption))); (refine' hideQ ?_); (intro Q9 hQ9))) | (k_unfold; (try dsimp only)) | (k_end; wrow_close) | ((with_reducible show wpAny _ _ (call _ _ _) _ _ _); (first | with_reducible (k_here; (with_reducible show wpAny _ _ (call (Value.type _) [Value.ref _]) _ _ _); k_dflt (refine' tuple_led ?k1 ?k2 ?k3 ?k4 ?_; (case k1 => k_asm); (case k2 => k_asm); (case k3 => k_mem); (case k4 => omega)); intro D' h' F' N' l1; (try k_lt l1); (try k_sweep)) | with_reducible (k_here; (with_reducible show wpAny _ _ (call (Value.ref 266) [Value.ref _, Value.int _ _] _) _ _ _); k_dflt (refine' MDoes.use ?k1 ?k2 ?k3 ?k4 ?k5 ?k6 ?k7 ?kP (expr0 ?h0 ?h1) ?kJ ?kO ?kd ?ku ?_; (case k1 => k_asm); (case k2 => k_asm); (case k3 => k_asm); (case k4 => k_asm); (case k5 => k_asm); (case k6 => first | exact rfl | assumption); (case k7 => first | exact rfl | assumption); (case kP => repeat (first | exact Pick.head | apply Pick.tail)); (case kJ => assumption); (case h0 => tb_start); (case h1 => omega); (case kO => k_all); (case kd => (try dsimp only [Around.deeper]); omega); (case ku => (try dsimp only [Around.deeper]); omega)); (intro r' o' tl' h' tk' F' N' hf' ho' hP'); (obtain ⟨J', rws', hE'⟩ := hP'); (try simp only [List.nil_append, List.cons_append, List.append_nil, List.append_assoc] at N'); (try k_sweep); (try dsimp only); (try k_fold)) | with_reducible (k_here; (with_reducible show wpAny _ _ (call (Value.ref 261) [Value.ref _] _) _ _ _); k_dflt (refine' MDoes.use ?k1 ?k2 ?k3 ?k4 ?k5 ?k6 ?k7 ?kP (word ?h0 ?h1) ?kJ ?kO ?kd ?ku ?_; (case k1 => k_asm); (case k2 => k_asm); (case k3 => k_asm); (case k4 => k_asm); (case k5 => k_asm); (case k6 => first | exact rfl | assumption); (case k7 => first | exact rfl | assumption); (case kP => repeat (first | exact Pick.head | apply Pick.tail)); (case kJ => assumption); (case h0 => tb_start); (case h1 => omega); (case kO => k_all); (case kd => (try dsimp only [Around.deeper]); omega); (case ku => (try dsimp only [Around.deeper]); omega)); (intro r' o' tl' h' tk' F' N' hf' ho' hP'); (obtain ⟨e1', J', x', t', e2', hw'⟩ := hP'); (subst e1'); (subst e2'); (try simp only [List.nil_append, List.cons_append, List.append_nil, List.append_assoc] at N'); (try k_sweep); (try dsimp only); (try k_fold)) | with_reducible (k_here; (with_reducible show wpAny _ _ (call (Value.ref 254) [Value.ref _] _) _ _ _); k_dflt (refine' MDoes.use ?k1 ?k2 ?k3 ?k4 ?k5 ?k6 ?k7 ?kP (spot ?h0) ?kJ ?kO ?kd ?ku ?_; (case k1 => k_asm); (case k2 => k_asm); (case k3 => k_asm); (case k4 => k_asm); (case k5 => k_asm); (case k6 => first | exact rfl | assumption); (case k7 => first | exact rfl | assumption); (case kP => repeat (first | exact Pick.head | apply Pick.tail)); (case kJ => assumption); (case h0 => tb_start); (case kO => k_all); (case kd => (try dsimp only [Around.deeper]); omega); (case ku => (try dsimp only [Around.deeper]); omega)); (intro r' o' tl' h' tk' F' N' hf' ho' hP'); (obtain ⟨e1', J', i', t', e2'⟩ := hP'); (subst e1'); (subst e2'); (try simp only [List.nil_append, List.cons_append, List.append_nil, List.append_assoc] at N'); (try k_sweep); (try dsimp only); (try k_fold)) | with_reducible (k_here; (with_reducible show wpAny _ _ (call (Value.ref 247) [Value.ref _, Value.int _ _] _) _ _ _); k_dflt (refine' MDoes.use ?k1 ?k2 ?k3 ?k4 ?k5 ?k6 ?k7 ?kP (draw ?h0 ?h1 ?h2 ?h3) ?kJ ?kO ?kd ?ku ?_; (case k1 => k_asm); (case k2 => k_asm); (case k3 => k_asm); (case k4 => k_asm); (case k5 => k_asm); (case k6 => first | exact rfl | assumption); (case k7 => first | exact rfl | assumption); (case kP => repeat (first | exact Pick.head | apply Pick.tail)); (case kJ => assumption); (case h0 => tb_start); (case h1 => omega); (case h2 => omega); (case h3 => omega); (case kO => k_all); (case kd => (try dsimp only [Around.deeper]); omega); (case ku => (try dsimp only [Around.deeper]); omega)); (intro r' o' tl' h' tk' F' N' hf' ho' hP'); (obtain ⟨e1', J', i', t', e2', hlo', hhi'⟩ := hP'); (subst e1'); (subst e2'); (try simp only [List.nil_append, List.cons_append, List.append_nil, List.append_assoc] at N'); (try k_sweep); (try dsimp only); (try k_fold)))) | ((with_reducible show wpAny _ _ (PySem.eval (PySem.Expr.ListComp _ _ _ _) _) _ _ _); (k_here; refine' comp_led ?kh ?c1 ?c2 ?c3 ?c4 ?c5 ?_ ?c6; (case kh => k_asm); (case c1 => with_unfolding_all rfl); (case c2 => decide); (case c3 => with_unfolding_all rfl); (case c4 => decide); (case c5 => with_unfolding_all rfl); (case c6 => intro _; with_unfolding_all rfl))) | walk1 | ((refine' Hid.use ?hQ ?_); (case hQ => with_reducible assumption); (try dsimp only)) | dsimp only | (leave1; (try dsimp only)) | fail "no step"))
      refine' EltEnd.intro ?F ?N ?J ?G ?R ?S ?H
      case F => assumption
      case N => assumption
      case R => assumption
      case J => assumption
      case G => omega
      case S => tb_start
      case H => tb_rel
    · intro D kk ys tl o1 bs h2 tk2 hlen hp J1 hf hlt hall hoD F2 N2
      simp only [List.cons_append] at N2
      (repeat' (first | ((with_reducible show wpAny _ _ _ _ _ (Shared.mk _ _ _ (_ + 1 + 1) _)); (refine forgetT ?_); (intro tk9); (try dsimp only)) | ((with_reducible show wpAny _ _ (PySem.exec _ _) _ _ _); ((fail_if_success (refine' hidden_test ?hQ ?_; (case hQ => with_reducible assumption))); (refine' hideQ ?_); (intro Q9 hQ9))) | (k_unfold; (try dsimp only)) | (k_end; wrow_close) | ((with_reducible show wpAny _ _ (call _ _ _) _ _ _); (first | with_reducible (k_here; (with_reducible show wpAny _ _ (call (Value.type _) [Value.ref _]) _ _ _); k_dflt (refine' tuple_led ?k1 ?k2 ?k3 ?k4 ?_; (case k1 => k_asm); (case k2 => k_asm); (case k3 => k_mem); (case k4 => omega)); intro D' h' F' N' l1; (try k_lt l1); (try k_sweep)) | with_reducible (k_here; (with_reducible show wpAny _ _ (call (Value.ref 266) [Value.ref _, Value.int _ _] _) _ _ _); k_dflt (refine' MDoes.use ?k1 ?k2 ?k3 ?k4 ?k5 ?k6 ?k7 ?kP (expr0 ?h0 ?h1) ?kJ ?kO ?kd ?ku ?_; (case k1 => k_asm); (case k2 => k_asm); (case k3 => k_asm); (case k4 => k_asm); (case k5 => k_asm); (case k6 => first | exact rfl | assumption); (case k7 => first | exact rfl | assumption); (case kP => repeat (first | exact Pick.head | apply Pick.tail)); (case kJ => assumption); (case h0 => tb_start); (case h1 => omega); (case kO => k_all); (case kd => (try dsimp only [Around.deeper]); omega); (case ku => (try dsimp only [Around.deeper]); omega)); (intro r' o' tl' h' tk' F' N' hf' ho' hP'); (obtain ⟨J', rws', hE'⟩ := hP'); (try simp only [List.nil_append, List.cons_append, List.append_nil, List.append_assoc] at N'); (try k_sweep); (try dsimp only); (try k_fold)) | with_reducible (k_here; (with_reducible show wpAny _ _ (call (Value.ref 261) [Value.ref _] _) _ _ _); k_dflt (refine' MDoes.use ?k1 ?k2 ?k3 ?k4 ?k5 ?k6 ?k7 ?kP (word ?h0 ?h1) ?kJ ?kO ?kd ?ku ?_; (case k1 => k_asm); (case k2 => k_asm); (case k3 => k_asm); (case k4 => k_asm); (case k5 => k_asm); (case k6 => first | exact rfl | assumption); (case k7 => first | exact rfl | assumption); (case kP => repeat (first | exact Pick.head | apply Pick.tail)); (case kJ => assumption); (case h0 => tb_start); (case h1 => omega); (case kO => k_all); (case kd => (try dsimp only [Around.deeper]); omega); (case ku => (try dsimp only [Around.deeper]); omega)); (intro r' o' tl' h' tk' F' N' hf' ho' hP'); (obtain ⟨e1', J', x', t', e2', hw'⟩ := hP'); (subst e1'); (subst e2'); (try simp only [List.nil_append, List.cons_append, List.append_nil, List.append_assoc] at N'); (try k_sweep); (try dsimp only); (try k_fold)) | with_reducible (k_here; (with_reducible show wpAny _ _ (call (Value.ref 254) [Value.ref _] _) _ _ _); k_dflt (refine' MDoes.use ?k1 ?k2 ?k3 ?k4 ?k5 ?k6 ?k7 ?kP (spot ?h0) ?kJ ?kO ?kd ?ku ?_; (case k1 => k_asm); (case k2 => k_asm); (case k3 => k_asm); (case k4 => k_asm); (case k5 => k_asm); (case k6 => first | exact rfl | assumption); (case k7 => first | exact rfl | assumption); (case kP => repeat (first | exact Pick.head | apply Pick.tail)); (case kJ => assumption); (case h0 => tb_start); (case kO => k_all); (case kd => (try dsimp only [Around.deeper]); omega); (case ku => (try dsimp only [Around.deeper]); omega)); (intro r' o' tl' h' tk' F' N' hf' ho' hP'); (obtain ⟨e1', J', i', t', e2'⟩ := hP'); (subst e1'); (subst e2'); (try simp only [List.nil_append, List.cons_append, List.append_nil, List.append_assoc] at N'); (try k_sweep); (try dsimp only); (try k_fold)) | with_reducible (k_here; (with_reducible show wpAny _ _ (call (Value.ref 247) [Value.ref _, Value.int _ _] _) _ _ _); k_dflt (refine' MDoes.use ?k1 ?k2 ?k3 ?k4 ?k5 ?k6 ?k7 ?kP (draw ?h0 ?h1 ?h2 ?h3) ?kJ ?kO ?kd ?ku ?_; (case k1 => k_asm); (case k2 => k_asm); (case k3 => k_asm); (case k4 => k_asm); (case k5 => k_asm); (case k6 => first | exact rfl | assumption); (case k7 => first | exact rfl | assumption); (case kP => repeat (first | exact Pick.head | apply Pick.tail)); (case kJ => assumption); (case h0 => tb_start); (case h1 => omega); (case h2 => omega); (case h3 => omega); (case kO => k_all); (case kd => (try dsimp only [Around.deeper]); omega); (case ku => (try dsimp only [Around.deeper]); omega)); (intro r' o' tl' h' tk' F' N' hf' ho' hP'); (obtain ⟨e1', J', i', t', e2', hlo', hhi'⟩ := hP'); (subst e1'); (subst e2'); (try simp only [List.nil_append, List.cons_append, List.append_nil, List.append_assoc] at N'); (try k_sweep); (try dsimp only); (try k_fold)))) | ((with_reducible show wpAny _ _ (PySem.eval (PySem.Expr.ListComp _ _ _ _) _) _ _ _); (k_here; refine' comp_led ?kh ?c1 ?c2 ?c3 ?c4 ?c5 ?_ ?c6; (case kh => k_asm); (case c1 => with_unfolding_all rfl); (case c2 => decide); (case c3 => with_unfolding_all rfl); (case c4 => decide); (case c5 => with_unfolding_all rfl); (case c6 => intro _; with_unfolding_all rfl))) | walk1 | ((refine' Hid.use ?hQ ?_); (case hQ => with_reducible assumption); (try dsimp only)) | dsimp only | (leave1; (try dsimp only)) | fail "no step"))
      refine' MDoes.fin2 hret ?F ?N o1 ?S ?X ?R ?X2 ?R2 ?H ⟨?J, ?E⟩
      case F => assumption
      case N => assumption
      case R => tbn_find
      case R2 => tbn_find
      case S => tb_start
      case X => omega
      case X2 => omega
      case H => tb_rel
      case J => exact Jar.less J1 (by omega)
      case E => exact ⟨_, .inr (.inr ⟨_, _, _, _, _, _, _, _, _, rfl, .head _, .tail _ (.head _), by omega, PPaired.mono (fun _ _ h => ExIn.up h (by tb_start)) hp, rfl⟩)⟩
open PySem PySem.W PySem.Calls PyProof.Rows PySem.Spec
theorem frag_on8 : (hdS.heap_1 = hdS.heap_1 ∧ PySem.Challenge.rw_on0122_01 = PySem.Challenge.rw_on0122_01) := by
  k_fill
  exact ⟨rfl, rfl⟩

set_option maxHeartbeats 8000000 in
theorem stmt0 {w : World} : StmtC w 0 0 5 8 := by
  intro j g rest R t hR hg o hJ ho dp un gd env outer A₀ base h₀ L m mean mg mb s Q E HA hd hu hret
  obtain ⟨B, F, X, N, T, fr, kd⟩ := HA
  refine wpAny_call ?_
  k_dflt ktr_enter
  (repeat' (first | ((with_reducible show wpAny _ _ _ _ _ (Shared.mk _ _ _ (_ + 1 + 1) _)); (refine forgetT ?_); (intro tk9); (try dsimp only)) | ((with_reducible show wpAny _ _ (PySem.exec _ _) _ _ _); ((fail_if_success (refine' hidden_test ?hQ ?_; (case hQ => with_reducible assumption))); (refine' hideQ ?_); (intro Q9 hQ9))) | (k_unfold; (try dsimp only)) | (k_end; wrow_close) | ((with_reducible show wpAny _ _ (call _ _ _) _ _ _); (first | with_reducible (k_here; (with_reducible show wpAny _ _ (call (Value.ref 278) [Value.ref _, Value.int _ _] _) _ _ _); k_dflt (refine' MDoes.use ?k1 ?k2 ?k3 ?k4 ?k5 ?k6 ?k7 ?kP (CaseC.use ?h0 ?h1 ?h2) ?kJ ?kO ?kd ?ku ?_; (case k1 => k_asm); (case k2 => k_asm); (case k3 => k_asm); (case k4 => k_asm); (case k5 => k_asm); (case k6 => first | exact rfl | assumption); (case k7 => first | exact rfl | assumption); (case kP => repeat (first | exact Pick.head | apply Pick.tail)); (case kJ => assumption); (case h0 => assumption); (case h1 => tb_start); (case h2 => omega); (case kO => k_all); (case kd => (try dsimp only [Around.deeper]); omega); (case ku => (try dsimp only [Around.deeper]); omega)); (intro r' o' tl' h' tk' F' N' hf' ho' hP'); (obtain ⟨J', rws', hE'⟩ := hP'); (try simp only [List.nil_append, List.cons_append, List.append_nil, List.append_assoc] at N'); (try k_sweep); (try dsimp only); (try k_fold)) | with_reducible (k_here; (with_reducible show wpAny _ _ (call (Value.ref 273) [Value.ref _, Value.int _ _] _) _ _ _); k_dflt (refine' MDoes.use ?k1 ?k2 ?k3 ?k4 ?k5 ?k6 ?k7 ?kP (StmtC.use ?h0 ?h1 ?h2) ?kJ ?kO ?kd ?ku ?_; (case k1 => k_asm); (case k2 => k_asm); (case k3 => k_asm); (case k4 => k_asm); (case k5 => k_asm); (case k6 => first | exact rfl | assumption); (case k7 => first | exact rfl | assumption); (case kP => repeat (first | exact Pick.head | apply Pick.tail)); (case kJ => assumption); (case h0 => assumption); (case h1 => tb_start); (case h2 => omega); (case kO => k_all); (case kd => (try dsimp only [Around.deeper]); omega); (case ku => (try dsimp only [Around.deeper]); omega)); (intro r' o' tl' h' tk' F' N' hf' ho' hP'); (obtain ⟨J', rws', hE'⟩ := hP'); (try simp only [List.nil_append, List.cons_append, List.append_nil, List.append_assoc] at N'); (try k_sweep); (try dsimp only); (try k_fold)) | with_reducible (k_here; (with_reducible show wpAny _ _ (call (Value.ref 266) [Value.ref _, Value.int _ _] _) _ _ _); k_dflt (refine' MDoes.use ?k1 ?k2 ?k3 ?k4 ?k5 ?k6 ?k7 ?kP (expr1 ?h0 ?h1) ?kJ ?kO ?kd ?ku ?_; (case k1 => k_asm); (case k2 => k_asm); (case k3 => k_asm); (case k4 => k_asm); (case k5 => k_asm); (case k6 => first | exact rfl | assumption); (case k7 => first | exact rfl | assumption); (case kP => repeat (first | exact Pick.head | apply Pick.tail)); (case kJ => assumption); (case h0 => tb_start); (case h1 => omega); (case kO => k_all); (case kd => (try dsimp only [Around.deeper]); omega); (case ku => (try dsimp only [Around.deeper]); omega)); (intro r' o' tl' h' tk' F' N' hf' ho' hP'); (obtain ⟨J', rws', hE'⟩ := hP'); (try simp only [List.nil_append, List.cons_append, List.append_nil, List.append_assoc] at N'); (try k_sweep); (try dsimp only); (try k_fold)) | with_reducible (k_here; (with_reducible show wpAny _ _ (call (Value.ref 261) [Value.ref _] _) _ _ _); k_dflt (refine' MDoes.use ?k1 ?k2 ?k3 ?k4 ?k5 ?k6 ?k7 ?kP (word ?h0 ?h1) ?kJ ?kO ?kd ?ku ?_; (case k1 => k_asm); (case k2 => k_asm); (case k3 => k_asm); (case k4 => k_asm); (case k5 => k_asm); (case k6 => first | exact rfl | assumption); (case k7 => first | exact rfl | assumption); (case kP => repeat (first | exact Pick.head | apply Pick.tail)); (case kJ => assumption); (case h0 => tb_start); (case h1 => omega); (case kO => k_all); (case kd => (try dsimp only [Around.deeper]); omega); (case ku => (try dsimp only [Around.deeper]); omega)); (intro r' o' tl' h' tk' F' N' hf' ho' hP'); (obtain ⟨e1', J', x', t', e2', hw'⟩ := hP'); (subst e1'); (subst e2'); (try simp only [List.nil_append, List.cons_append, List.append_nil, List.append_assoc] at N'); (try k_sweep); (try dsimp only); (try k_fold)) | with_reducible (k_here; (with_reducible show wpAny _ _ (call (Value.ref 254) [Value.ref _] _) _ _ _); k_dflt (refine' MDoes.use ?k1 ?k2 ?k3 ?k4 ?k5 ?k6 ?k7 ?kP (spot ?h0) ?kJ ?kO ?kd ?ku ?_; (case k1 => k_asm); (case k2 => k_asm); (case k3 => k_asm); (case k4 => k_asm); (case k5 => k_asm); (case k6 => first | exact rfl | assumption); (case k7 => first | exact rfl | assumption); (case kP => repeat (first | exact Pick.head | apply Pick.tail)); (case kJ => assumption); (case h0 => tb_start); (case kO => k_all); (case kd => (try dsimp only [Around.deeper]); omega); (case ku => (try dsimp only [Around.deeper]); omega)); (intro r' o' tl' h' tk' F' N' hf' ho' hP'); (obtain ⟨e1', J', i', t', e2'⟩ := hP'); (subst e1'); (subst e2'); (try simp only [List.nil_append, List.cons_append, List.append_nil, List.append_assoc] at N'); (try k_sweep); (try dsimp only); (try k_fold)) | with_reducible (k_here; (with_reducible show wpAny _ _ (call (Value.ref 247) [Value.ref _, Value.int _ _] _) _ _ _); k_dflt (refine' MDoes.use ?k1 ?k2 ?k3 ?k4 ?k5 ?k6 ?k7 ?kP (draw ?h0 ?h1 ?h2 ?h3) ?kJ ?kO ?kd ?ku ?_; (case k1 => k_asm); (case k2 => k_asm); (case k3 => k_asm); (case k4 => k_asm); (case k5 => k_asm); (case k6 => first | exact rfl | assumption); (case k7 => first | exact rfl | assumption); (case kP => repeat (first | exact Pick.head | apply Pick.tail)); (case kJ => assumption); (case h0 => tb_start); (case h1 => omega); (case h2 => omega); (case h3 => omega); (case kO => k_all); (case kd => (try dsimp only [Around.deeper]); omega); (case ku => (try dsimp only [Around.deeper]); omega)); (intro r' o' tl' h' tk' F' N' hf' ho' hP'); (obtain ⟨e1', J', i', t', e2', hlo', hhi'⟩ := hP'); (subst e1'); (subst e2'); (try simp only [List.nil_append, List.cons_append, List.append_nil, List.append_assoc] at N'); (try k_sweep); (try dsimp only); (try k_fold)))) | walk1 | ((refine' Hid.use ?hQ ?_); (case hQ => with_reducible assumption); (try dsimp only)) | dsimp only | (leave1; (try dsimp only)) | fail "no step"))
  all_goals
    refine' MDoes.fin2x hret ?F ?N ?S ?X ?R ?X2 ?R2 ?H ⟨?J, ?E⟩
    case F => assumption
    case N => assumption
    case R => tbn_find
    case R2 => tbn_find
    case S => tb_start
    case X => omega
    case X2 => omega
    case H => tb_rel
    case J => exact Jar.less (by assumption) (by omega)
    case E => exact ⟨_, ⟨_, _, _, _, _, _, _, _, _, _, _, _, _, _, rfl, .head _, .tail _ (.head _), by assumption, ExIn.up (by assumption) (by tb_start), rfl⟩⟩

set_option maxHeartbeats 8000000 in
theorem stmtS {w : World} {d : Int} {n c f : Nat} (hd0 : 0 < d) (hc4 : 4 ≤ c) (hS : StmtC w (d - 1) n c f) (hC : CaseC w (d - 1) n c f) : StmtC w d (n + 1) (c + 1) (f + 8) := by
  intro j g rest R t hR hg o hJ ho dp un gd env outer A₀ base h₀ L m mean mg mb s Q E HA hd hu hret
  obtain ⟨B, F, X, N, T, fr, kd⟩ := HA
  refine wpAny_call ?_
  k_dflt ktr_enter
  (repeat' (first | ((with_reducible show wpAny _ _ _ _ _ (Shared.mk _ _ _ (_ + 1 + 1) _)); (refine forgetT ?_); (intro tk9); (try dsimp only)) | ((with_reducible show wpAny _ _ (PySem.exec _ _) _ _ _); ((fail_if_success (refine' hidden_test ?hQ ?_; (case hQ => with_reducible assumption))); (refine' hideQ ?_); (intro Q9 hQ9))) | (k_unfold; (try dsimp only)) | (k_end; wrow_close) | ((with_reducible show wpAny _ _ (call _ _ _) _ _ _); (first | with_reducible (k_here; (with_reducible show wpAny _ _ (call (Value.ref 278) [Value.ref _, Value.int _ _] _) _ _ _); k_dflt (refine' MDoes.use ?k1 ?k2 ?k3 ?k4 ?k5 ?k6 ?k7 ?kP (CaseC.use ?h0 ?h1 ?h2) ?kJ ?kO ?kd ?ku ?_; (case k1 => k_asm); (case k2 => k_asm); (case k3 => k_asm); (case k4 => k_asm); (case k5 => k_asm); (case k6 => first | exact rfl | assumption); (case k7 => first | exact rfl | assumption); (case kP => repeat (first | exact Pick.head | apply Pick.tail)); (case kJ => assumption); (case h0 => assumption); (case h1 => tb_start); (case h2 => omega); (case kO => k_all); (case kd => (try dsimp only [Around.deeper]); omega); (case ku => (try dsimp only [Around.deeper]); omega)); (intro r' o' tl' h' tk' F' N' hf' ho' hP'); (obtain ⟨J', rws', hE'⟩ := hP'); (try simp only [List.nil_append, List.cons_append, List.append_nil, List.append_assoc] at N'); (try k_sweep); (try dsimp only); (try k_fold)) | with_reducible (k_here; (with_reducible show wpAny _ _ (call (Value.ref 273) [Value.ref _, Value.int _ _] _) _ _ _); k_dflt (refine' MDoes.use ?k1 ?k2 ?k3 ?k4 ?k5 ?k6 ?k7 ?kP (StmtC.use ?h0 ?h1 ?h2) ?kJ ?kO ?kd ?ku ?_; (case k1 => k_asm); (case k2 => k_asm); (case k3 => k_asm); (case k4 => k_asm); (case k5 => k_asm); (case k6 => first | exact rfl | assumption); (case k7 => first | exact rfl | assumption); (case kP => repeat (first | exact Pick.head | apply Pick.tail)); (case kJ => assumption); (case h0 => assumption); (case h1 => tb_start); (case h2 => omega); (case kO => k_all); (case kd => (try dsimp only [Around.deeper]); omega); (case ku => (try dsimp only [Around.deeper]); omega)); (intro r' o' tl' h' tk' F' N' hf' ho' hP'); (obtain ⟨J', rws', hE'⟩ := hP'); (try simp only [List.nil_append, List.cons_append, List.append_nil, List.append_assoc] at N'); (try k_sweep); (try dsimp only); (try k_fold)) | with_reducible (k_here; (with_reducible show wpAny _ _ (call (Value.ref 266) [Value.ref _, Value.int _ _] _) _ _ _); k_dflt (refine' MDoes.use ?k1 ?k2 ?k3 ?k4 ?k5 ?k6 ?k7 ?kP (expr1 ?h0 ?h1) ?kJ ?kO ?kd ?ku ?_; (case k1 => k_asm); (case k2 => k_asm); (case k3 => k_asm); (case k4 => k_asm); (case k5 => k_asm); (case k6 => first | exact rfl | assumption); (case k7 => first | exact rfl | assumption); (case kP => repeat (first | exact Pick.head | apply Pick.tail)); (case kJ => assumption); (case h0 => tb_start); (case h1 => omega); (case kO => k_all); (case kd => (try dsimp only [Around.deeper]); omega); (case ku => (try dsimp only [Around.deeper]); omega)); (intro r' o' tl' h' tk' F' N' hf' ho' hP'); (obtain ⟨J', rws', hE'⟩ := hP'); (try simp only [List.nil_append, List.cons_append, List.append_nil, List.append_assoc] at N'); (try k_sweep); (try dsimp only); (try k_fold)) | with_reducible (k_here; (with_reducible show wpAny _ _ (call (Value.ref 261) [Value.ref _] _) _ _ _); k_dflt (refine' MDoes.use ?k1 ?k2 ?k3 ?k4 ?k5 ?k6 ?k7 ?kP (word ?h0 ?h1) ?kJ ?kO ?kd ?ku ?_; (case k1 => k_asm); (case k2 => k_asm); (case k3 => k_asm); (case k4 => k_asm); (case k5 => k_asm); (case k6 => first | exact rfl | assumption); (case k7 => first | exact rfl | assumption); (case kP => repeat (first | exact Pick.head | apply Pick.tail)); (case kJ => assumption); (case h0 => tb_start); (case h1 => omega); (case kO => k_all); (case kd => (try dsimp only [Around.deeper]); omega); (case ku => (try dsimp only [Around.deeper]); omega)); (intro r' o' tl' h' tk' F' N' hf' ho' hP'); (obtain ⟨e1', J', x', t', e2', hw'⟩ := hP'); (subst e1'); (subst e2'); (try simp only [List.nil_append, List.cons_append, List.append_nil, List.append_assoc] at N'); (try k_sweep); (try dsimp only); (try k_fold)) | with_reducible (k_here; (with_reducible show wpAny _ _ (call (Value.ref 254) [Value.ref _] _) _ _ _); k_dflt (refine' MDoes.use ?k1 ?k2 ?k3 ?k4 ?k5 ?k6 ?k7 ?kP (spot ?h0) ?kJ ?kO ?kd ?ku ?_; (case k1 => k_asm); (case k2 => k_asm); (case k3 => k_asm); (case k4 => k_asm); (case k5 => k_asm); (case k6 => first | exact rfl | assumption); (case k7 => first | exact rfl | assumption); (case kP => repeat (first | exact Pick.head | apply Pick.tail)); (case kJ => assumption); (case h0 => tb_start); (case kO => k_all); (case kd => (try dsimp only [Around.deeper]); omega); (case ku => (try dsimp only [Around.deeper]); omega)); (intro r' o' tl' h' tk' F' N' hf' ho' hP'); (obtain ⟨e1', J', i', t', e2'⟩ := hP'); (subst e1'); (subst e2'); (try simp only [List.nil_append, List.cons_append, List.append_nil, List.append_assoc] at N'); (try k_sweep); (try dsimp only); (try k_fold)) | with_reducible (k_here; (with_reducible show wpAny _ _ (call (Value.ref 247) [Value.ref _, Value.int _ _] _) _ _ _); k_dflt (refine' MDoes.use ?k1 ?k2 ?k3 ?k4 ?k5 ?k6 ?k7 ?kP (draw ?h0 ?h1 ?h2 ?h3) ?kJ ?kO ?kd ?ku ?_; (case k1 => k_asm); (case k2 => k_asm); (case k3 => k_asm); (case k4 => k_asm); (case k5 => k_asm); (case k6 => first | exact rfl | assumption); (case k7 => first | exact rfl | assumption); (case kP => repeat (first | exact Pick.head | apply Pick.tail)); (case kJ => assumption); (case h0 => tb_start); (case h1 => omega); (case h2 => omega); (case h3 => omega); (case kO => k_all); (case kd => (try dsimp only [Around.deeper]); omega); (case ku => (try dsimp only [Around.deeper]); omega)); (intro r' o' tl' h' tk' F' N' hf' ho' hP'); (obtain ⟨e1', J', i', t', e2', hlo', hhi'⟩ := hP'); (subst e1'); (subst e2'); (try simp only [List.nil_append, List.cons_append, List.append_nil, List.append_assoc] at N'); (try k_sweep); (try dsimp only); (try k_fold)))) | walk1 | ((refine' Hid.use ?hQ ?_); (case hQ => with_reducible assumption); (try dsimp only)) | dsimp only | (leave1; (try dsimp only)) | fail "no step"))
  · refine' MDoes.fin2x hret ?F ?N ?S ?X ?R ?X2 ?R2 ?H ⟨?J, ?E⟩
    case F => assumption
    case N => assumption
    case R => tbn_find
    case R2 => tbn_find
    case S => tb_start
    case X => omega
    case X2 => omega
    case H => tb_rel
    case J => exact Jar.less (by assumption) (by omega)
    case E => exact ⟨_, .inl ⟨_, _, _, _, _, _, _, _, _, _, _, _, _, _, rfl, .head _, .tail _ (.head _), by assumption, ExIn.up (by assumption) (by tb_start), rfl⟩⟩
  · refine' MDoes.fin2x hret ?F ?N ?S ?X ?R ?X2 ?R2 ?H ⟨?J, ?E⟩
    case F => assumption
    case N => assumption
    case R => tbn_find
    case R2 => tbn_find
    case S => tb_start
    case X => omega
    case X2 => omega
    case H => tb_rel
    case J => exact Jar.less (by assumption) (by omega)
    case E => exact ⟨_, .inl ⟨_, _, _, _, _, _, _, _, _, _, _, _, _, _, rfl, .head _, .tail _ (.head _), by assumption, ExIn.up (by assumption) (by tb_start), rfl⟩⟩
  · rename Obj => oo
    refine' MDoes.fin hret ?F ?N oo [] ?S fresh_nil ⟨?J, ?E⟩
    case F => assumption
    case N => assumption
    case S => (rw [List.append_nil]; tb_start)
    case J => exact Jar.less (by assumption) (by omega)
    case E => exact ⟨_, .inr (.inl ⟨rfl, rfl⟩)⟩
  · rename Obj => oo
    refine' MDoes.fin1 hret ?F ?N oo ?S ?X ?R ?H ⟨?J, ?E⟩
    case F => assumption
    case N => assumption
    case R => tbn_find
    case S => tb_start
    case X => omega
    case H => tb_rel
    case J => exact Jar.less (by assumption) (by omega)
    case E => exact ⟨_, .inr (.inr (.inl ⟨_, _, _, _, _, _, _, _, _, rfl, .head _, ExIn.up (by assumption) (by tb_start), StIn.up (by assumption) (by tb_start), rfl⟩))⟩
  · rename Obj => oo
    refine' MDoes.fin hret ?F ?N oo _ ?S ?H ⟨?J, ?E⟩
    case F => assumption
    case N => assumption
    case H => assumption
    case S => tb_start
    case J => exact Jar.less (by assumption) (by omega)
    case E => exact ⟨_, .inr (.inr (.inr (by assumption)))⟩
open PySem PySem.W PySem.Calls PyProof.Rows PySem.Spec
theorem frag_on9 : (hdS.heap_1 = hdS.heap_1 ∧ PySem.Challenge.rw_on0122_01 = PySem.Challenge.rw_on0122_01) := by
  k_fill
  exact ⟨rfl, rfl⟩

set_option maxHeartbeats 8000000 in
theorem caseS {w : World} {d : Int} {n c f : Nat} (hc4 : 4 ≤ c) (hS : StmtC w d n c f) : CaseC w d n (c + 1) (4 * f + 63) := by
  intro j g rest R t hR hg o hJ ho dp un gd env outer A₀ base h₀ L m mean mg mb s Q E HA hd hu hret
  obtain ⟨B, F, X, N, T, fr, kd⟩ := HA
  refine wpAny_call ?_
  k_dflt ktr_enter
  repeat' (first | (fail_if_success (with_reducible show wpAny _ _ (exec (Stmt.For _ _ _ _ _) _) _ _ _)); first | ((with_reducible show wpAny _ _ _ _ _ (Shared.mk _ _ _ (_ + 1 + 1) _)); (refine forgetT ?_); (intro tk9); (try dsimp only)) | ((with_reducible show wpAny _ _ (PySem.exec _ _) _ _ _); ((fail_if_success (refine' hidden_test ?hQ ?_; (case hQ => with_reducible assumption))); (refine' hideQ ?_); (intro Q9 hQ9))) | (k_unfold; (try dsimp only)) | (k_end; wrow_close) | ((with_reducible show wpAny _ _ (call _ _ _) _ _ _); (first | with_reducible (k_here; (with_reducible show wpAny _ _ (call (Value.builtin _) [Value.ref _, _]) _ _ _); k_dflt (refine' append_led ?k1 ?k2 ?k3 ?z ?_; (case k1 => k_asm); (case k2 => k_asm); (case k3 => k_upd); (case z => omega)); intro h' F' N'; (try k_sweep)) | with_reducible (k_here; (with_reducible show wpAny _ _ (call (Value.type _) [Value.ref _]) _ _ _); k_dflt (refine' tuple_led ?k1 ?k2 ?k3 ?k4 ?_; (case k1 => k_asm); (case k2 => k_asm); (case k3 => k_mem); (case k4 => omega)); intro D' h' F' N' l1; (try k_lt l1); (try k_sweep)) | with_reducible (k_here; (with_reducible show wpAny _ _ (call (Value.ref 273) [Value.ref _, Value.int _ _] _) _ _ _); k_dflt (refine' MDoes.use ?k1 ?k2 ?k3 ?k4 ?k5 ?k6 ?k7 ?kP (StmtC.use ?h0 ?h1 ?h2) ?kJ ?kO ?kd ?ku ?_; (case k1 => k_asm); (case k2 => k_asm); (case k3 => k_asm); (case k4 => k_asm); (case k5 => k_asm); (case k6 => first | exact rfl | assumption); (case k7 => first | exact rfl | assumption); (case kP => repeat (first | exact Pick.head | apply Pick.tail)); (case kJ => assumption); (case h0 => assumption); (case h1 => tb_start); (case h2 => omega); (case kO => k_all); (case kd => (try dsimp only [Around.deeper]); omega); (case ku => (try dsimp only [Around.deeper]); omega)); (intro r' o' tl' h' tk' F' N' hf' ho' hP'); (obtain ⟨J', rws', hE'⟩ := hP'); (try simp only [List.nil_append, List.cons_append, List.append_nil, List.append_assoc] at N'); (try k_sweep); (try dsimp only); (try k_fold)) | with_reducible (k_here; (with_reducible show wpAny _ _ (call (Value.ref 266) [Value.ref _, Value.int _ _] _) _ _ _); k_dflt (refine' MDoes.use ?k1 ?k2 ?k3 ?k4 ?k5 ?k6 ?k7 ?kP (expr1 ?h0 ?h1) ?kJ ?kO ?kd ?ku ?_; (case k1 => k_asm); (case k2 => k_asm); (case k3 => k_asm); (case k4 => k_asm); (case k5 => k_asm); (case k6 => first | exact rfl | assumption); (case k7 => first | exact rfl | assumption); (case kP => repeat (first | exact Pick.head | apply Pick.tail)); (case kJ => assumption); (case h0 => tb_start); (case h1 => omega); (case kO => k_all); (case kd => (try dsimp only [Around.deeper]); omega); (case ku => (try dsimp only [Around.deeper]); omega)); (intro r' o' tl' h' tk' F' N' hf' ho' hP'); (obtain ⟨J', rws', hE'⟩ := hP'); (try simp only [List.nil_append, List.cons_append, List.append_nil, List.append_assoc] at N'); (try k_sweep); (try dsimp only); (try k_fold)) | with_reducible (k_here; (with_reducible show wpAny _ _ (call (Value.ref 261) [Value.ref _] _) _ _ _); k_dflt (refine' MDoes.use ?k1 ?k2 ?k3 ?k4 ?k5 ?k6 ?k7 ?kP (word ?h0 ?h1) ?kJ ?kO ?kd ?ku ?_; (case k1 => k_asm); (case k2 => k_asm); (case k3 => k_asm); (case k4 => k_asm); (case k5 => k_asm); (case k6 => first | exact rfl | assumption); (case k7 => first | exact rfl | assumption); (case kP => repeat (first | exact Pick.head | apply Pick.tail)); (case kJ => assumption); (case h0 => tb_start); (case h1 => omega); (case kO => k_all); (case kd => (try dsimp only [Around.deeper]); omega); (case ku => (try dsimp only [Around.deeper]); omega)); (intro r' o' tl' h' tk' F' N' hf' ho' hP'); (obtain ⟨e1', J', x', t', e2', hw'⟩ := hP'); (subst e1'); (subst e2'); (try simp only [List.nil_append, List.cons_append, List.append_nil, List.append_assoc] at N'); (try k_sweep); (try dsimp only); (try k_fold)) | with_reducible (k_here; (with_reducible show wpAny _ _ (call (Value.ref 254) [Value.ref _] _) _ _ _); k_dflt (refine' MDoes.use ?k1 ?k2 ?k3 ?k4 ?k5 ?k6 ?k7 ?kP (spot ?h0) ?kJ ?kO ?kd ?ku ?_; (case k1 => k_asm); (case k2 => k_asm); (case k3 => k_asm); (case k4 => k_asm); (case k5 => k_asm); (case k6 => first | exact rfl | assumption); (case k7 => first | exact rfl | assumption); (case kP => repeat (first | exact Pick.head | apply Pick.tail)); (case kJ => assumption); (case h0 => tb_start); (case kO => k_all); (case kd => (try dsimp only [Around.deeper]); omega); (case ku => (try dsimp only [Around.deeper]); omega)); (intro r' o' tl' h' tk' F' N' hf' ho' hP'); (obtain ⟨e1', J', i', t', e2'⟩ := hP'); (subst e1'); (subst e2'); (try simp only [List.nil_append, List.cons_append, List.append_nil, List.append_assoc] at N'); (try k_sweep); (try dsimp only); (try k_fold)) | with_reducible (k_here; (with_reducible show wpAny _ _ (call (Value.ref 247) [Value.ref _, Value.int _ _] _) _ _ _); k_dflt (refine' MDoes.use ?k1 ?k2 ?k3 ?k4 ?k5 ?k6 ?k7 ?kP (draw ?h0 ?h1 ?h2 ?h3) ?kJ ?kO ?kd ?ku ?_; (case k1 => k_asm); (case k2 => k_asm); (case k3 => k_asm); (case k4 => k_asm); (case k5 => k_asm); (case k6 => first | exact rfl | assumption); (case k7 => first | exact rfl | assumption); (case kP => repeat (first | exact Pick.head | apply Pick.tail)); (case kJ => assumption); (case h0 => tb_start); (case h1 => omega); (case h2 => omega); (case h3 => omega); (case kO => k_all); (case kd => (try dsimp only [Around.deeper]); omega); (case ku => (try dsimp only [Around.deeper]); omega)); (intro r' o' tl' h' tk' F' N' hf' ho' hP'); (obtain ⟨e1', J', i', t', e2', hlo', hhi'⟩ := hP'); (subst e1'); (subst e2'); (try simp only [List.nil_append, List.cons_append, List.append_nil, List.append_assoc] at N'); (try k_sweep); (try dsimp only); (try k_fold)))) | ((with_reducible show wpAny _ _ (PySem.eval (PySem.Expr.ListComp _ _ _ _) _) _ _ _); (k_here; refine' comp_led ?kh ?c1 ?c2 ?c3 ?c4 ?c5 ?_ ?c6; (case kh => k_asm); (case c1 => with_unfolding_all rfl); (case c2 => decide); (case c3 => with_unfolding_all rfl); (case c4 => decide); (case c5 => with_unfolding_all rfl); (case c6 => intro _; with_unfolding_all rfl))) | walk1 | ((refine' Hid.use ?hQ ?_); (case hQ => with_reducible assumption); (try dsimp only)) | dsimp only | (leave1; try dsimp only at *) | fail "no step")
  k_here
  refine' For_ledF ?kh ?_ ?c1
  (case kh => k_asm)
  (case c1 => intro _; with_unfolding_all rfl)
  (repeat' (first | ((with_reducible show wpAny _ _ _ _ _ (Shared.mk _ _ _ (_ + 1 + 1) _)); (refine forgetT ?_); (intro tk9); (try dsimp only)) | ((with_reducible show wpAny _ _ (PySem.exec _ _) _ _ _); ((fail_if_success (refine' hidden_test ?hQ ?_; (case hQ => with_reducible assumption))); (refine' hideQ ?_); (intro Q9 hQ9))) | (k_unfold; (try dsimp only)) | (k_end; wrow_close) | ((with_reducible show wpAny _ _ (call _ _ _) _ _ _); (first | with_reducible (k_here; (with_reducible show wpAny _ _ (call (Value.builtin _) [Value.ref _, _]) _ _ _); k_dflt (refine' append_led ?k1 ?k2 ?k3 ?z ?_; (case k1 => k_asm); (case k2 => k_asm); (case k3 => k_upd); (case z => omega)); intro h' F' N'; (try k_sweep)) | with_reducible (k_here; (with_reducible show wpAny _ _ (call (Value.type _) [Value.ref _]) _ _ _); k_dflt (refine' tuple_led ?k1 ?k2 ?k3 ?k4 ?_; (case k1 => k_asm); (case k2 => k_asm); (case k3 => k_mem); (case k4 => omega)); intro D' h' F' N' l1; (try k_lt l1); (try k_sweep)) | with_reducible (k_here; (with_reducible show wpAny _ _ (call (Value.ref 273) [Value.ref _, Value.int _ _] _) _ _ _); k_dflt (refine' MDoes.use ?k1 ?k2 ?k3 ?k4 ?k5 ?k6 ?k7 ?kP (StmtC.use ?h0 ?h1 ?h2) ?kJ ?kO ?kd ?ku ?_; (case k1 => k_asm); (case k2 => k_asm); (case k3 => k_asm); (case k4 => k_asm); (case k5 => k_asm); (case k6 => first | exact rfl | assumption); (case k7 => first | exact rfl | assumption); (case kP => repeat (first | exact Pick.head | apply Pick.tail)); (case kJ => assumption); (case h0 => assumption); (case h1 => tb_start); (case h2 => omega); (case kO => k_all); (case kd => (try dsimp only [Around.deeper]); omega); (case ku => (try dsimp only [Around.deeper]); omega)); (intro r' o' tl' h' tk' F' N' hf' ho' hP'); (obtain ⟨J', rws', hE'⟩ := hP'); (try simp only [List.nil_append, List.cons_append, List.append_nil, List.append_assoc] at N'); (try k_sweep); (try dsimp only); (try k_fold)) | with_reducible (k_here; (with_reducible show wpAny _ _ (call (Value.ref 266) [Value.ref _, Value.int _ _] _) _ _ _); k_dflt (refine' MDoes.use ?k1 ?k2 ?k3 ?k4 ?k5 ?k6 ?k7 ?kP (expr1 ?h0 ?h1) ?kJ ?kO ?kd ?ku ?_; (case k1 => k_asm); (case k2 => k_asm); (case k3 => k_asm); (case k4 => k_asm); (case k5 => k_asm); (case k6 => first | exact rfl | assumption); (case k7 => first | exact rfl | assumption); (case kP => repeat (first | exact Pick.head | apply Pick.tail)); (case kJ => assumption); (case h0 => tb_start); (case h1 => omega); (case kO => k_all); (case kd => (try dsimp only [Around.deeper]); omega); (case ku => (try dsimp only [Around.deeper]); omega)); (intro r' o' tl' h' tk' F' N' hf' ho' hP'); (obtain ⟨J', rws', hE'⟩ := hP'); (try simp only [List.nil_append, List.cons_append, List.append_nil, List.append_assoc] at N'); (try k_sweep); (try dsimp only); (try k_fold)) | with_reducible (k_here; (with_reducible show wpAny _ _ (call (Value.ref 261) [Value.ref _] _) _ _ _); k_dflt (refine' MDoes.use ?k1 ?k2 ?k3 ?k4 ?k5 ?k6 ?k7 ?kP (word ?h0 ?h1) ?kJ ?kO ?kd ?ku ?_; (case k1 => k_asm); (case k2 => k_asm); (case k3 => k_asm); (case k4 => k_asm); (case k5 => k_asm); (case k6 => first | exact rfl | assumption); (case k7 => first | exact rfl | assumption); (case kP => repeat (first | exact Pick.head | apply Pick.tail)); (case kJ => assumption); (case h0 => tb_start); (case h1 => omega); (case kO => k_all); (case kd => (try dsimp only [Around.deeper]); omega); (case ku => (try dsimp only [Around.deeper]); omega)); (intro r' o' tl' h' tk' F' N' hf' ho' hP'); (obtain ⟨e1', J', x', t', e2', hw'⟩ := hP'); (subst e1'); (subst e2'); (try simp only [List.nil_append, List.cons_append, List.append_nil, List.append_assoc] at N'); (try k_sweep); (try dsimp only); (try k_fold)) | with_reducible (k_here; (with_reducible show wpAny _ _ (call (Value.ref 254) [Value.ref _] _) _ _ _); k_dflt (refine' MDoes.use ?k1 ?k2 ?k3 ?k4 ?k5 ?k6 ?k7 ?kP (spot ?h0) ?kJ ?kO ?kd ?ku ?_; (case k1 => k_asm); (case k2 => k_asm); (case k3 => k_asm); (case k4 => k_asm); (case k5 => k_asm); (case k6 => first | exact rfl | assumption); (case k7 => first | exact rfl | assumption); (case kP => repeat (first | exact Pick.head | apply Pick.tail)); (case kJ => assumption); (case h0 => tb_start); (case kO => k_all); (case kd => (try dsimp only [Around.deeper]); omega); (case ku => (try dsimp only [Around.deeper]); omega)); (intro r' o' tl' h' tk' F' N' hf' ho' hP'); (obtain ⟨e1', J', i', t', e2'⟩ := hP'); (subst e1'); (subst e2'); (try simp only [List.nil_append, List.cons_append, List.append_nil, List.append_assoc] at N'); (try k_sweep); (try dsimp only); (try k_fold)) | with_reducible (k_here; (with_reducible show wpAny _ _ (call (Value.ref 247) [Value.ref _, Value.int _ _] _) _ _ _); k_dflt (refine' MDoes.use ?k1 ?k2 ?k3 ?k4 ?k5 ?k6 ?k7 ?kP (draw ?h0 ?h1 ?h2 ?h3) ?kJ ?kO ?kd ?ku ?_; (case k1 => k_asm); (case k2 => k_asm); (case k3 => k_asm); (case k4 => k_asm); (case k5 => k_asm); (case k6 => first | exact rfl | assumption); (case k7 => first | exact rfl | assumption); (case kP => repeat (first | exact Pick.head | apply Pick.tail)); (case kJ => assumption); (case h0 => tb_start); (case h1 => omega); (case h2 => omega); (case h3 => omega); (case kO => k_all); (case kd => (try dsimp only [Around.deeper]); omega); (case ku => (try dsimp only [Around.deeper]); omega)); (intro r' o' tl' h' tk' F' N' hf' ho' hP'); (obtain ⟨e1', J', i', t', e2', hlo', hhi'⟩ := hP'); (subst e1'); (subst e2'); (try simp only [List.nil_append, List.cons_append, List.append_nil, List.append_assoc] at N'); (try k_sweep); (try dsimp only); (try k_fold)))) | ((with_reducible show wpAny _ _ (PySem.eval (PySem.Expr.ListComp _ _ _ _) _) _ _ _); (k_here; refine' comp_led ?kh ?c1 ?c2 ?c3 ?c4 ?c5 ?_ ?c6; (case kh => k_asm); (case c1 => with_unfolding_all rfl); (case c2 => decide); (case c3 => with_unfolding_all rfl); (case c4 => decide); (case c5 => with_unfolding_all rfl); (case c6 => intro _; with_unfolding_all rfl))) | walk1 | ((refine' Hid.use ?hQ ?_); (case hQ => with_reducible assumption); (try dsimp only)) | dsimp only | (leave1; (try dsimp only)) | fail "no step"))

  refine iter_range rfl (by assumption) (by omega) (by omega) (by assumption) (by assumption) ?_
  intro I St h1 F1 N1 hI
  refine for_grow (xm := Str.ofString "marks") (Rel := fun tl v d => BranchIn tl (StIn tl n) v d) (fun _ _ _ _ hs h => h.mono hs fun _ _ h => h.mono hs) (k := f + 14) hI F1 N1 (by assumption) (Nat.le_trans (Nat.mul_le_mul_right (f + 14) (by omega : _ ≤ 4)) (by omega)) (by k_ne) (by decide) rfl rfl ?_ ?_
  · intro i t' u1 u2 tl bl kb o1 g1 own h2 tk2 E' hk hbl J1 ho1 ho2 hb1 hb2 F2 N2
    simp only [List.cons_append, List.append_assoc] at N2
    have hbl4 : bl.length < 4 := by omega
    have hq := off2 (a := rest) (by tbn_find)
    obtain ⟨hq1, hq2⟩ := hq
    (repeat' (first | ((with_reducible show wpAny _ _ _ _ _ (Shared.mk _ _ _ (_ + 1 + 1) _)); (refine forgetT ?_); (intro tk9); (try dsimp only)) | ((with_reducible show wpAny _ _ (PySem.exec _ _) _ _ _); ((fail_if_success (refine' hidden_test ?hQ ?_; (case hQ => with_reducible assumption))); (refine' hideQ ?_); (intro Q9 hQ9))) | (k_unfold; (try dsimp only)) | (k_end; wrow_close) | ((with_reducible show wpAny _ _ (call _ _ _) _ _ _); (first | with_reducible (k_here; (with_reducible show wpAny _ _ (call (Value.builtin _) [Value.ref _, _]) _ _ _); k_dflt (refine' append_led ?k1 ?k2 ?k3 ?z ?_; (case k1 => k_asm); (case k2 => k_asm); (case k3 => k_upd); (case z => omega)); intro h' F' N'; (try k_sweep)) | with_reducible (k_here; (with_reducible show wpAny _ _ (call (Value.type _) [Value.ref _]) _ _ _); k_dflt (refine' tuple_led ?k1 ?k2 ?k3 ?k4 ?_; (case k1 => k_asm); (case k2 => k_asm); (case k3 => k_mem); (case k4 => omega)); intro D' h' F' N' l1; (try k_lt l1); (try k_sweep)) | with_reducible (k_here; (with_reducible show wpAny _ _ (call (Value.ref 273) [Value.ref _, Value.int _ _] _) _ _ _); k_dflt (refine' MDoes.use ?k1 ?k2 ?k3 ?k4 ?k5 ?k6 ?k7 ?kP (StmtC.use ?h0 ?h1 ?h2) ?kJ ?kO ?kd ?ku ?_; (case k1 => k_asm); (case k2 => k_asm); (case k3 => k_asm); (case k4 => k_asm); (case k5 => k_asm); (case k6 => first | exact rfl | assumption); (case k7 => first | exact rfl | assumption); (case kP => repeat (first | exact Pick.head | apply Pick.tail)); (case kJ => assumption); (case h0 => assumption); (case h1 => tb_start); (case h2 => omega); (case kO => k_all); (case kd => (try dsimp only [Around.deeper]); omega); (case ku => (try dsimp only [Around.deeper]); omega)); (intro r' o' tl' h' tk' F' N' hf' ho' hP'); (obtain ⟨J', rws', hE'⟩ := hP'); (try simp only [List.nil_append, List.cons_append, List.append_nil, List.append_assoc] at N'); (try k_sweep); (try dsimp only); (try k_fold)) | with_reducible (k_here; (with_reducible show wpAny _ _ (call (Value.ref 266) [Value.ref _, Value.int _ _] _) _ _ _); k_dflt (refine' MDoes.use ?k1 ?k2 ?k3 ?k4 ?k5 ?k6 ?k7 ?kP (expr1 ?h0 ?h1) ?kJ ?kO ?kd ?ku ?_; (case k1 => k_asm); (case k2 => k_asm); (case k3 => k_asm); (case k4 => k_asm); (case k5 => k_asm); (case k6 => first | exact rfl | assumption); (case k7 => first | exact rfl | assumption); (case kP => repeat (first | exact Pick.head | apply Pick.tail)); (case kJ => assumption); (case h0 => tb_start); (case h1 => omega); (case kO => k_all); (case kd => (try dsimp only [Around.deeper]); omega); (case ku => (try dsimp only [Around.deeper]); omega)); (intro r' o' tl' h' tk' F' N' hf' ho' hP'); (obtain ⟨J', rws', hE'⟩ := hP'); (try simp only [List.nil_append, List.cons_append, List.append_nil, List.append_assoc] at N'); (try k_sweep); (try dsimp only); (try k_fold)) | with_reducible (k_here; (with_reducible show wpAny _ _ (call (Value.ref 261) [Value.ref _] _) _ _ _); k_dflt (refine' MDoes.use ?k1 ?k2 ?k3 ?k4 ?k5 ?k6 ?k7 ?kP (word ?h0 ?h1) ?kJ ?kO ?kd ?ku ?_; (case k1 => k_asm); (case k2 => k_asm); (case k3 => k_asm); (case k4 => k_asm); (case k5 => k_asm); (case k6 => first | exact rfl | assumption); (case k7 => first | exact rfl | assumption); (case kP => repeat (first | exact Pick.head | apply Pick.tail)); (case kJ => assumption); (case h0 => tb_start); (case h1 => omega); (case kO => k_all); (case kd => (try dsimp only [Around.deeper]); omega); (case ku => (try dsimp only [Around.deeper]); omega)); (intro r' o' tl' h' tk' F' N' hf' ho' hP'); (obtain ⟨e1', J', x', t', e2', hw'⟩ := hP'); (subst e1'); (subst e2'); (try simp only [List.nil_append, List.cons_append, List.append_nil, List.append_assoc] at N'); (try k_sweep); (try dsimp only); (try k_fold)) | with_reducible (k_here; (with_reducible show wpAny _ _ (call (Value.ref 254) [Value.ref _] _) _ _ _); k_dflt (refine' MDoes.use ?k1 ?k2 ?k3 ?k4 ?k5 ?k6 ?k7 ?kP (spot ?h0) ?kJ ?kO ?kd ?ku ?_; (case k1 => k_asm); (case k2 => k_asm); (case k3 => k_asm); (case k4 => k_asm); (case k5 => k_asm); (case k6 => first | exact rfl | assumption); (case k7 => first | exact rfl | assumption); (case kP => repeat (first | exact Pick.head | apply Pick.tail)); (case kJ => assumption); (case h0 => tb_start); (case kO => k_all); (case kd => (try dsimp only [Around.deeper]); omega); (case ku => (try dsimp only [Around.deeper]); omega)); (intro r' o' tl' h' tk' F' N' hf' ho' hP'); (obtain ⟨e1', J', i', t', e2'⟩ := hP'); (subst e1'); (subst e2'); (try simp only [List.nil_append, List.cons_append, List.append_nil, List.append_assoc] at N'); (try k_sweep); (try dsimp only); (try k_fold)) | with_reducible (k_here; (with_reducible show wpAny _ _ (call (Value.ref 247) [Value.ref _, Value.int _ _] _) _ _ _); k_dflt (refine' MDoes.use ?k1 ?k2 ?k3 ?k4 ?k5 ?k6 ?k7 ?kP (draw ?h0 ?h1 ?h2 ?h3) ?kJ ?kO ?kd ?ku ?_; (case k1 => k_asm); (case k2 => k_asm); (case k3 => k_asm); (case k4 => k_asm); (case k5 => k_asm); (case k6 => first | exact rfl | assumption); (case k7 => first | exact rfl | assumption); (case kP => repeat (first | exact Pick.head | apply Pick.tail)); (case kJ => assumption); (case h0 => tb_start); (case h1 => omega); (case h2 => omega); (case h3 => omega); (case kO => k_all); (case kd => (try dsimp only [Around.deeper]); omega); (case ku => (try dsimp only [Around.deeper]); omega)); (intro r' o' tl' h' tk' F' N' hf' ho' hP'); (obtain ⟨e1', J', i', t', e2', hlo', hhi'⟩ := hP'); (subst e1'); (subst e2'); (try simp only [List.nil_append, List.cons_append, List.append_nil, List.append_assoc] at N'); (try k_sweep); (try dsimp only); (try k_fold)))) | ((with_reducible show wpAny _ _ (PySem.eval (PySem.Expr.ListComp _ _ _ _) _) _ _ _); (k_here; refine' comp_led ?kh ?c1 ?c2 ?c3 ?c4 ?c5 ?_ ?c6; (case kh => k_asm); (case c1 => with_unfolding_all rfl); (case c2 => decide); (case c3 => with_unfolding_all rfl); (case c4 => decide); (case c5 => with_unfolding_all rfl); (case c6 => intro _; with_unfolding_all rfl))) | walk1 | ((refine' Hid.use ?hQ ?_); (case hQ => with_reducible assumption); (try dsimp only)) | dsimp only | (leave1; (try dsimp only)) | fail "no step"))
    · refine iter_range rfl (by assumption) (by omega) (by omega) (by assumption) (by assumption) ?_
      intro I2 St2 h3 F3 N3 hI2
      refine comp_jar (Rel := fun tl v rows => ExIn tl 1 v rows) (fun _ _ _ _ hs h => h.mono hs) (k := 6) hI2 (by omega) F3 N3 (by assumption) (by omega) ?_ ?_
      · intro tl2 o2 g2 own2 h4 tk4 C E2 hk2 J2 ho3 ho4 F4 N4
        simp only [List.cons_append, List.append_assoc] at N4
        (repeat' (first | ((with_reducible show wpAny _ _ _ _ _ (Shared.mk _ _ _ (_ + 1 + 1) _)); (refine forgetT ?_); (intro tk9); (try dsimp only)) | ((with_reducible show wpAny _ _ (PySem.exec _ _) _ _ _); ((fail_if_success (refine' hidden_test ?hQ ?_; (case hQ => with_reducible assumption))); (refine' hideQ ?_); (intro Q9 hQ9))) | (k_unfold; (try dsimp only)) | (k_end; wrow_close) | ((with_reducible show wpAny _ _ (call _ _ _) _ _ _); (first | with_reducible (k_here; (with_reducible show wpAny _ _ (call (Value.builtin _) [Value.ref _, _]) _ _ _); k_dflt (refine' append_led ?k1 ?k2 ?k3 ?z ?_; (case k1 => k_asm); (case k2 => k_asm); (case k3 => k_upd); (case z => omega)); intro h' F' N'; (try k_sweep)) | with_reducible (k_here; (with_reducible show wpAny _ _ (call (Value.type _) [Value.ref _]) _ _ _); k_dflt (refine' tuple_led ?k1 ?k2 ?k3 ?k4 ?_; (case k1 => k_asm); (case k2 => k_asm); (case k3 => k_mem); (case k4 => omega)); intro D' h' F' N' l1; (try k_lt l1); (try k_sweep)) | with_reducible (k_here; (with_reducible show wpAny _ _ (call (Value.ref 273) [Value.ref _, Value.int _ _] _) _ _ _); k_dflt (refine' MDoes.use ?k1 ?k2 ?k3 ?k4 ?k5 ?k6 ?k7 ?kP (StmtC.use ?h0 ?h1 ?h2) ?kJ ?kO ?kd ?ku ?_; (case k1 => k_asm); (case k2 => k_asm); (case k3 => k_asm); (case k4 => k_asm); (case k5 => k_asm); (case k6 => first | exact rfl | assumption); (case k7 => first | exact rfl | assumption); (case kP => repeat (first | exact Pick.head | apply Pick.tail)); (case kJ => assumption); (case h0 => assumption); (case h1 => tb_start); (case h2 => omega); (case kO => k_all); (case kd => (try dsimp only [Around.deeper]); omega); (case ku => (try dsimp only [Around.deeper]); omega)); (intro r' o' tl' h' tk' F' N' hf' ho' hP'); (obtain ⟨J', rws', hE'⟩ := hP'); (try simp only [List.nil_append, List.cons_append, List.append_nil, List.append_assoc] at N'); (try k_sweep); (try dsimp only); (try k_fold)) | with_reducible (k_here; (with_reducible show wpAny _ _ (call (Value.ref 266) [Value.ref _, Value.int _ _] _) _ _ _); k_dflt (refine' MDoes.use ?k1 ?k2 ?k3 ?k4 ?k5 ?k6 ?k7 ?kP (expr1 ?h0 ?h1) ?kJ ?kO ?kd ?ku ?_; (case k1 => k_asm); (case k2 => k_asm); (case k3 => k_asm); (case k4 => k_asm); (case k5 => k_asm); (case k6 => first | exact rfl | assumption); (case k7 => first | exact rfl | assumption); (case kP => repeat (first | exact Pick.head | apply Pick.tail)); (case kJ => assumption); (case h0 => tb_start); (case h1 => omega); (case kO => k_all); (case kd => (try dsimp only [Around.deeper]); omega); (case ku => (try dsimp only [Around.deeper]); omega)); (intro r' o' tl' h' tk' F' N' hf' ho' hP'); (obtain ⟨J', rws', hE'⟩ := hP'); (try simp only [List.nil_append, List.cons_append, List.append_nil, List.append_assoc] at N'); (try k_sweep); (try dsimp only); (try k_fold)) | with_reducible (k_here; (with_reducible show wpAny _ _ (call (Value.ref 261) [Value.ref _] _) _ _ _); k_dflt (refine' MDoes.use ?k1 ?k2 ?k3 ?k4 ?k5 ?k6 ?k7 ?kP (word ?h0 ?h1) ?kJ ?kO ?kd ?ku ?_; (case k1 => k_asm); (case k2 => k_asm); (case k3 => k_asm); (case k4 => k_asm); (case k5 => k_asm); (case k6 => first | exact rfl | assumption); (case k7 => first | exact rfl | assumption); (case kP => repeat (first | exact Pick.head | apply Pick.tail)); (case kJ => assumption); (case h0 => tb_start); (case h1 => omega); (case kO => k_all); (case kd => (try dsimp only [Around.deeper]); omega); (case ku => (try dsimp only [Around.deeper]); omega)); (intro r' o' tl' h' tk' F' N' hf' ho' hP'); (obtain ⟨e1', J', x', t', e2', hw'⟩ := hP'); (subst e1'); (subst e2'); (try simp only [List.nil_append, List.cons_append, List.append_nil, List.append_assoc] at N'); (try k_sweep); (try dsimp only); (try k_fold)) | with_reducible (k_here; (with_reducible show wpAny _ _ (call (Value.ref 254) [Value.ref _] _) _ _ _); k_dflt (refine' MDoes.use ?k1 ?k2 ?k3 ?k4 ?k5 ?k6 ?k7 ?kP (spot ?h0) ?kJ ?kO ?kd ?ku ?_; (case k1 => k_asm); (case k2 => k_asm); (case k3 => k_asm); (case k4 => k_asm); (case k5 => k_asm); (case k6 => first | exact rfl | assumption); (case k7 => first | exact rfl | assumption); (case kP => repeat (first | exact Pick.head | apply Pick.tail)); (case kJ => assumption); (case h0 => tb_start); (case kO => k_all); (case kd => (try dsimp only [Around.deeper]); omega); (case ku => (try dsimp only [Around.deeper]); omega)); (intro r' o' tl' h' tk' F' N' hf' ho' hP'); (obtain ⟨e1', J', i', t', e2'⟩ := hP'); (subst e1'); (subst e2'); (try simp only [List.nil_append, List.cons_append, List.append_nil, List.append_assoc] at N'); (try k_sweep); (try dsimp only); (try k_fold)) | with_reducible (k_here; (with_reducible show wpAny _ _ (call (Value.ref 247) [Value.ref _, Value.int _ _] _) _ _ _); k_dflt (refine' MDoes.use ?k1 ?k2 ?k3 ?k4 ?k5 ?k6 ?k7 ?kP (draw ?h0 ?h1 ?h2 ?h3) ?kJ ?kO ?kd ?ku ?_; (case k1 => k_asm); (case k2 => k_asm); (case k3 => k_asm); (case k4 => k_asm); (case k5 => k_asm); (case k6 => first | exact rfl | assumption); (case k7 => first | exact rfl | assumption); (case kP => repeat (first | exact Pick.head | apply Pick.tail)); (case kJ => assumption); (case h0 => tb_start); (case h1 => omega); (case h2 => omega); (case h3 => omega); (case kO => k_all); (case kd => (try dsimp only [Around.deeper]); omega); (case ku => (try dsimp only [Around.deeper]); omega)); (intro r' o' tl' h' tk' F' N' hf' ho' hP'); (obtain ⟨e1', J', i', t', e2', hlo', hhi'⟩ := hP'); (subst e1'); (subst e2'); (try simp only [List.nil_append, List.cons_append, List.append_nil, List.append_assoc] at N'); (try k_sweep); (try dsimp only); (try k_fold)))) | ((with_reducible show wpAny _ _ (PySem.eval (PySem.Expr.ListComp _ _ _ _) _) _ _ _); (k_here; refine' comp_led ?kh ?c1 ?c2 ?c3 ?c4 ?c5 ?_ ?c6; (case kh => k_asm); (case c1 => with_unfolding_all rfl); (case c2 => decide); (case c3 => with_unfolding_all rfl); (case c4 => decide); (case c5 => with_unfolding_all rfl); (case c6 => intro _; with_unfolding_all rfl))) | walk1 | ((refine' Hid.use ?hQ ?_); (case hQ => with_reducible assumption); (try dsimp only)) | dsimp only | (leave1; (try dsimp only)) | fail "no step"))
        refine' EltEnd.intro ?F ?N ?J ?G ?R ?S ?H
        case F => assumption
        case N => assumption
        case R => assumption
        case J => assumption
        case G => omega
        case S => tb_start
        case H => tb_rel
      · intro D kk ys tl2 o2 bs h4 tk4 hlen hp J2 hf2 hlt hall hoD F4 N4
        simp only [List.cons_append, List.append_assoc] at N4
        have hoj := hf2.off
        have hfo := fresh_off hf2 (.head _)
        have hall1 := hall
        simp only [AllLt, and_true] at hall1
        (repeat' (first | ((with_reducible show wpAny _ _ _ _ _ (Shared.mk _ _ _ (_ + 1 + 1) _)); (refine forgetT ?_); (intro tk9); (try dsimp only)) | ((with_reducible show wpAny _ _ (PySem.exec _ _) _ _ _); ((fail_if_success (refine' hidden_test ?hQ ?_; (case hQ => with_reducible assumption))); (refine' hideQ ?_); (intro Q9 hQ9))) | (k_unfold; (try dsimp only)) | (k_end; wrow_close) | ((with_reducible show wpAny _ _ (call _ _ _) _ _ _); (first | with_reducible (k_here; (with_reducible show wpAny _ _ (call (Value.builtin _) [Value.ref _, _]) _ _ _); k_dflt (refine' append_led ?k1 ?k2 ?k3 ?z ?_; (case k1 => k_asm); (case k2 => k_asm); (case k3 => k_upd); (case z => omega)); intro h' F' N'; (try k_sweep)) | with_reducible (k_here; (with_reducible show wpAny _ _ (call (Value.type _) [Value.ref _]) _ _ _); k_dflt (refine' tuple_led ?k1 ?k2 ?k3 ?k4 ?_; (case k1 => k_asm); (case k2 => k_asm); (case k3 => k_mem); (case k4 => omega)); intro D' h' F' N' l1; (try k_lt l1); (try k_sweep)) | with_reducible (k_here; (with_reducible show wpAny _ _ (call (Value.ref 273) [Value.ref _, Value.int _ _] _) _ _ _); k_dflt (refine' MDoes.use ?k1 ?k2 ?k3 ?k4 ?k5 ?k6 ?k7 ?kP (StmtC.use ?h0 ?h1 ?h2) ?kJ ?kO ?kd ?ku ?_; (case k1 => k_asm); (case k2 => k_asm); (case k3 => k_asm); (case k4 => k_asm); (case k5 => k_asm); (case k6 => first | exact rfl | assumption); (case k7 => first | exact rfl | assumption); (case kP => repeat (first | exact Pick.head | apply Pick.tail)); (case kJ => assumption); (case h0 => assumption); (case h1 => tb_start); (case h2 => omega); (case kO => k_all); (case kd => (try dsimp only [Around.deeper]); omega); (case ku => (try dsimp only [Around.deeper]); omega)); (intro r' o' tl' h' tk' F' N' hf' ho' hP'); (obtain ⟨J', rws', hE'⟩ := hP'); (try simp only [List.nil_append, List.cons_append, List.append_nil, List.append_assoc] at N'); (try k_sweep); (try dsimp only); (try k_fold)) | with_reducible (k_here; (with_reducible show wpAny _ _ (call (Value.ref 266) [Value.ref _, Value.int _ _] _) _ _ _); k_dflt (refine' MDoes.use ?k1 ?k2 ?k3 ?k4 ?k5 ?k6 ?k7 ?kP (expr1 ?h0 ?h1) ?kJ ?kO ?kd ?ku ?_; (case k1 => k_asm); (case k2 => k_asm); (case k3 => k_asm); (case k4 => k_asm); (case k5 => k_asm); (case k6 => first | exact rfl | assumption); (case k7 => first | exact rfl | assumption); (case kP => repeat (first | exact Pick.head | apply Pick.tail)); (case kJ => assumption); (case h0 => tb_start); (case h1 => omega); (case kO => k_all); (case kd => (try dsimp only [Around.deeper]); omega); (case ku => (try dsimp only [Around.deeper]); omega)); (intro r' o' tl' h' tk' F' N' hf' ho' hP'); (obtain ⟨J', rws', hE'⟩ := hP'); (try simp only [List.nil_append, List.cons_append, List.append_nil, List.append_assoc] at N'); (try k_sweep); (try dsimp only); (try k_fold)) | with_reducible (k_here; (with_reducible show wpAny _ _ (call (Value.ref 261) [Value.ref _] _) _ _ _); k_dflt (refine' MDoes.use ?k1 ?k2 ?k3 ?k4 ?k5 ?k6 ?k7 ?kP (word ?h0 ?h1) ?kJ ?kO ?kd ?ku ?_; (case k1 => k_asm); (case k2 => k_asm); (case k3 => k_asm); (case k4 => k_asm); (case k5 => k_asm); (case k6 => first | exact rfl | assumption); (case k7 => first | exact rfl | assumption); (case kP => repeat (first | exact Pick.head | apply Pick.tail)); (case kJ => assumption); (case h0 => tb_start); (case h1 => omega); (case kO => k_all); (case kd => (try dsimp only [Around.deeper]); omega); (case ku => (try dsimp only [Around.deeper]); omega)); (intro r' o' tl' h' tk' F' N' hf' ho' hP'); (obtain ⟨e1', J', x', t', e2', hw'⟩ := hP'); (subst e1'); (subst e2'); (try simp only [List.nil_append, List.cons_append, List.append_nil, List.append_assoc] at N'); (try k_sweep); (try dsimp only); (try k_fold)) | with_reducible (k_here; (with_reducible show wpAny _ _ (call (Value.ref 254) [Value.ref _] _) _ _ _); k_dflt (refine' MDoes.use ?k1 ?k2 ?k3 ?k4 ?k5 ?k6 ?k7 ?kP (spot ?h0) ?kJ ?kO ?kd ?ku ?_; (case k1 => k_asm); (case k2 => k_asm); (case k3 => k_asm); (case k4 => k_asm); (case k5 => k_asm); (case k6 => first | exact rfl | assumption); (case k7 => first | exact rfl | assumption); (case kP => repeat (first | exact Pick.head | apply Pick.tail)); (case kJ => assumption); (case h0 => tb_start); (case kO => k_all); (case kd => (try dsimp only [Around.deeper]); omega); (case ku => (try dsimp only [Around.deeper]); omega)); (intro r' o' tl' h' tk' F' N' hf' ho' hP'); (obtain ⟨e1', J', i', t', e2'⟩ := hP'); (subst e1'); (subst e2'); (try simp only [List.nil_append, List.cons_append, List.append_nil, List.append_assoc] at N'); (try k_sweep); (try dsimp only); (try k_fold)) | with_reducible (k_here; (with_reducible show wpAny _ _ (call (Value.ref 247) [Value.ref _, Value.int _ _] _) _ _ _); k_dflt (refine' MDoes.use ?k1 ?k2 ?k3 ?k4 ?k5 ?k6 ?k7 ?kP (draw ?h0 ?h1 ?h2 ?h3) ?kJ ?kO ?kd ?ku ?_; (case k1 => k_asm); (case k2 => k_asm); (case k3 => k_asm); (case k4 => k_asm); (case k5 => k_asm); (case k6 => first | exact rfl | assumption); (case k7 => first | exact rfl | assumption); (case kP => repeat (first | exact Pick.head | apply Pick.tail)); (case kJ => assumption); (case h0 => tb_start); (case h1 => omega); (case h2 => omega); (case h3 => omega); (case kO => k_all); (case kd => (try dsimp only [Around.deeper]); omega); (case ku => (try dsimp only [Around.deeper]); omega)); (intro r' o' tl' h' tk' F' N' hf' ho' hP'); (obtain ⟨e1', J', i', t', e2', hlo', hhi'⟩ := hP'); (subst e1'); (subst e2'); (try simp only [List.nil_append, List.cons_append, List.append_nil, List.append_assoc] at N'); (try k_sweep); (try dsimp only); (try k_fold)))) | ((with_reducible show wpAny _ _ (PySem.eval (PySem.Expr.ListComp _ _ _ _) _) _ _ _); (k_here; refine' comp_led ?kh ?c1 ?c2 ?c3 ?c4 ?c5 ?_ ?c6; (case kh => k_asm); (case c1 => with_unfolding_all rfl); (case c2 => decide); (case c3 => with_unfolding_all rfl); (case c4 => decide); (case c5 => with_unfolding_all rfl); (case c6 => intro _; with_unfolding_all rfl))) | walk1 | ((refine' Hid.use ?hQ ?_); (case hQ => with_reducible assumption); (try dsimp only)) | dsimp only | (leave1; (try dsimp only)) | fail "no step"))
        refine' GrowEnd.intro2 ?F ?N ?P2 ?J ?G ?R ?S ?H ?B ?X ?AL ?XB ?X2 ?AL2 ?XB2 ?M ?E
        case F => assumption
        case N => assumption
        case P2 => k_mem
        case J => assumption
        case G => omega
        case R => exact ⟨_, _, _, _, _, rfl, .head _, StIn.up (led := _) (by assumption) (fun _ h => .tail _ (.tail _ (List.mem_append.mpr (.inr h)))), .inr ⟨_, _, _, _, rfl, .tail _ (.head _), by omega, PPaired.mono (fun _ _ h => ExIn.up h (fun _ h => .tail _ (.tail _ (List.mem_append.mpr (.inl h))))) hp, rfl⟩⟩
        case S => tb_start
        case H => tb_rel
        case B => (refine List.forall_mem_append.mpr ⟨?_, ?_⟩ <;> k_all)
        case X => omega
        case X2 => omega
        case XB => omega
        case XB2 => omega
        case AL => (simp only [List.cons_append]; exact ⟨by omega, allLt_sub (by tbn_find) (by tb_start)⟩)
        case AL2 => (simp only [List.cons_append]; exact ⟨by omega, allLt_sub (by tbn_find) (by tb_start)⟩)
        case M => (intro z h1 h2; simp only [if_neg h1, if_neg h2])
        case E => decide
    · refine' GrowEnd.intro1 ?F ?N ?P1 ?P2 ?J ?G ?R ?S ?H ?B ?X ?AL ?XB ?M ?E
      case F => assumption
      case N => assumption
      case P2 => k_mem
      case P1 => k_mem
      case J => assumption
      case G => omega
      case R => exact ⟨_, _, _, _, _, rfl, .head _, StIn.up (led := _) (by assumption) (fun _ h => .tail _ h), .inl ⟨rfl, rfl⟩⟩
      case S => tb_start
      case H => tb_rel
      case B => k_all
      case X => omega
      case XB => omega
      case AL => (simp only [List.cons_append]; exact ⟨by omega, allLt_sub (by tbn_find) (by tb_start)⟩)
      case M => (intro z h1 h2; simp only [if_neg h1, if_neg h2])
      case E => decide
  · intro u1 u2 bl kb tl o1 ds h2 tk2 hlen hp J1 hf hfb F2 N2
    simp only [List.cons_append, List.append_assoc] at N2
    have hbl4 : bl.length ≤ 4 := by omega
    have hoj := hf.off
    (repeat' (first | ((with_reducible show wpAny _ _ _ _ _ (Shared.mk _ _ _ (_ + 1 + 1) _)); (refine forgetT ?_); (intro tk9); (try dsimp only)) | ((with_reducible show wpAny _ _ (PySem.exec _ _) _ _ _); ((fail_if_success (refine' hidden_test ?hQ ?_; (case hQ => with_reducible assumption))); (refine' hideQ ?_); (intro Q9 hQ9))) | (k_unfold; (try dsimp only)) | (k_end; wrow_close) | ((with_reducible show wpAny _ _ (call _ _ _) _ _ _); (first | with_reducible (k_here; (with_reducible show wpAny _ _ (call (Value.builtin _) [Value.ref _, _]) _ _ _); k_dflt (refine' append_led ?k1 ?k2 ?k3 ?z ?_; (case k1 => k_asm); (case k2 => k_asm); (case k3 => k_upd); (case z => omega)); intro h' F' N'; (try k_sweep)) | with_reducible (k_here; (with_reducible show wpAny _ _ (call (Value.type _) [Value.ref _]) _ _ _); k_dflt (refine' tuple_led ?k1 ?k2 ?k3 ?k4 ?_; (case k1 => k_asm); (case k2 => k_asm); (case k3 => k_mem); (case k4 => omega)); intro D' h' F' N' l1; (try k_lt l1); (try k_sweep)) | with_reducible (k_here; (with_reducible show wpAny _ _ (call (Value.ref 273) [Value.ref _, Value.int _ _] _) _ _ _); k_dflt (refine' MDoes.use ?k1 ?k2 ?k3 ?k4 ?k5 ?k6 ?k7 ?kP (StmtC.use ?h0 ?h1 ?h2) ?kJ ?kO ?kd ?ku ?_; (case k1 => k_asm); (case k2 => k_asm); (case k3 => k_asm); (case k4 => k_asm); (case k5 => k_asm); (case k6 => first | exact rfl | assumption); (case k7 => first | exact rfl | assumption); (case kP => repeat (first | exact Pick.head | apply Pick.tail)); (case kJ => assumption); (case h0 => assumption); (case h1 => tb_start); (case h2 => omega); (case kO => k_all); (case kd => (try dsimp only [Around.deeper]); omega); (case ku => (try dsimp only [Around.deeper]); omega)); (intro r' o' tl' h' tk' F' N' hf' ho' hP'); (obtain ⟨J', rws', hE'⟩ := hP'); (try simp only [List.nil_append, List.cons_append, List.append_nil, List.append_assoc] at N'); (try k_sweep); (try dsimp only); (try k_fold)) | with_reducible (k_here; (with_reducible show wpAny _ _ (call (Value.ref 266) [Value.ref _, Value.int _ _] _) _ _ _); k_dflt (refine' MDoes.use ?k1 ?k2 ?k3 ?k4 ?k5 ?k6 ?k7 ?kP (expr1 ?h0 ?h1) ?kJ ?kO ?kd ?ku ?_; (case k1 => k_asm); (case k2 => k_asm); (case k3 => k_asm); (case k4 => k_asm); (case k5 => k_asm); (case k6 => first | exact rfl | assumption); (case k7 => first | exact rfl | assumption); (case kP => repeat (first | exact Pick.head | apply Pick.tail)); (case kJ => assumption); (case h0 => tb_start); (case h1 => omega); (case kO => k_all); (case kd => (try dsimp only [Around.deeper]); omega); (case ku => (try dsimp only [Around.deeper]); omega)); (intro r' o' tl' h' tk' F' N' hf' ho' hP'); (obtain ⟨J', rws', hE'⟩ := hP'); (try simp only [List.nil_append, List.cons_append, List.append_nil, List.append_assoc] at N'); (try k_sweep); (try dsimp only); (try k_fold)) | with_reducible (k_here; (with_reducible show wpAny _ _ (call (Value.ref 261) [Value.ref _] _) _ _ _); k_dflt (refine' MDoes.use ?k1 ?k2 ?k3 ?k4 ?k5 ?k6 ?k7 ?kP (word ?h0 ?h1) ?kJ ?kO ?kd ?ku ?_; (case k1 => k_asm); (case k2 => k_asm); (case k3 => k_asm); (case k4 => k_asm); (case k5 => k_asm); (case k6 => first | exact rfl | assumption); (case k7 => first | exact rfl | assumption); (case kP => repeat (first | exact Pick.head | apply Pick.tail)); (case kJ => assumption); (case h0 => tb_start); (case h1 => omega); (case kO => k_all); (case kd => (try dsimp only [Around.deeper]); omega); (case ku => (try dsimp only [Around.deeper]); omega)); (intro r' o' tl' h' tk' F' N' hf' ho' hP'); (obtain ⟨e1', J', x', t', e2', hw'⟩ := hP'); (subst e1'); (subst e2'); (try simp only [List.nil_append, List.cons_append, List.append_nil, List.append_assoc] at N'); (try k_sweep); (try dsimp only); (try k_fold)) | with_reducible (k_here; (with_reducible show wpAny _ _ (call (Value.ref 254) [Value.ref _] _) _ _ _); k_dflt (refine' MDoes.use ?k1 ?k2 ?k3 ?k4 ?k5 ?k6 ?k7 ?kP (spot ?h0) ?kJ ?kO ?kd ?ku ?_; (case k1 => k_asm); (case k2 => k_asm); (case k3 => k_asm); (case k4 => k_asm); (case k5 => k_asm); (case k6 => first | exact rfl | assumption); (case k7 => first | exact rfl | assumption); (case kP => repeat (first | exact Pick.head | apply Pick.tail)); (case kJ => assumption); (case h0 => tb_start); (case kO => k_all); (case kd => (try dsimp only [Around.deeper]); omega); (case ku => (try dsimp only [Around.deeper]); omega)); (intro r' o' tl' h' tk' F' N' hf' ho' hP'); (obtain ⟨e1', J', i', t', e2'⟩ := hP'); (subst e1'); (subst e2'); (try simp only [List.nil_append, List.cons_append, List.append_nil, List.append_assoc] at N'); (try k_sweep); (try dsimp only); (try k_fold)) | with_reducible (k_here; (with_reducible show wpAny _ _ (call (Value.ref 247) [Value.ref _, Value.int _ _] _) _ _ _); k_dflt (refine' MDoes.use ?k1 ?k2 ?k3 ?k4 ?k5 ?k6 ?k7 ?kP (draw ?h0 ?h1 ?h2 ?h3) ?kJ ?kO ?kd ?ku ?_; (case k1 => k_asm); (case k2 => k_asm); (case k3 => k_asm); (case k4 => k_asm); (case k5 => k_asm); (case k6 => first | exact rfl | assumption); (case k7 => first | exact rfl | assumption); (case kP => repeat (first | exact Pick.head | apply Pick.tail)); (case kJ => assumption); (case h0 => tb_start); (case h1 => omega); (case h2 => omega); (case h3 => omega); (case kO => k_all); (case kd => (try dsimp only [Around.deeper]); omega); (case ku => (try dsimp only [Around.deeper]); omega)); (intro r' o' tl' h' tk' F' N' hf' ho' hP'); (obtain ⟨e1', J', i', t', e2', hlo', hhi'⟩ := hP'); (subst e1'); (subst e2'); (try simp only [List.nil_append, List.cons_append, List.append_nil, List.append_assoc] at N'); (try k_sweep); (try dsimp only); (try k_fold)))) | ((with_reducible show wpAny _ _ (PySem.eval (PySem.Expr.ListComp _ _ _ _) _) _ _ _); (k_here; refine' comp_led ?kh ?c1 ?c2 ?c3 ?c4 ?c5 ?_ ?c6; (case kh => k_asm); (case c1 => with_unfolding_all rfl); (case c2 => decide); (case c3 => with_unfolding_all rfl); (case c4 => decide); (case c5 => with_unfolding_all rfl); (case c6 => intro _; with_unfolding_all rfl))) | walk1 | ((refine' Hid.use ?hQ ?_); (case hQ => with_reducible assumption); (try dsimp only)) | dsimp only | (leave1; (try dsimp only)) | fail "no step"))
    rename Obj => oo
    refine' MDoes.fin2 hret ?F ?N oo ?S ?X ?R ?X2 ?R2 ?H ⟨?J, ?E⟩
    case F => assumption
    case N => assumption
    case R => tbn_find
    case R2 => tbn_find
    case S => tb_start
    case X => omega
    case X2 => omega
    case H => tb_rel
    case J => exact Jar.less (by assumption) (Nat.le_trans (by omega) (Nat.sub_le_sub_left (Nat.mul_le_mul_right (f + 14) (by omega : _ ≤ 4)) _))
    case E => exact ⟨_, ⟨_, _, _, _, _, _, _, _, _, _, _, _, rfl, .head _, ExIn.up (by assumption) (by tb_start), .tail _ (.head _), hbl4, PPaired.mono (fun _ _ h => h.mono (by tb_start) fun _ _ h => h.up (by tb_start)) hp, rfl⟩⟩

theorem case2 {w : World} : CaseC w 2 2 10 1995 := by
  have c0 : CaseC w 0 0 6 95 := caseS (by omega) stmt0
  have s1 : StmtC w 1 1 7 103 := stmtS (d := 1) (by omega) (by omega) (stmt0.weak (by omega) (by omega)) c0
  have c1 : CaseC w 1 1 8 475 := caseS (by omega) s1
  have s2 : StmtC w 2 2 9 483 := stmtS (d := 2) (by omega) (by omega) (s1.weak (by omega) (by omega)) c1
  exact caseS (by omega) s2
open PySem PySem.W PySem.Calls PyProof.Rows PySem.Spec

/-- the entry under x of the law's tables -/
def EntIn (led : Led) (x : Str) (v : Value) : Prop :=
  (x = Str.ofString "zz" ∧ v = .none) ∨ (∃ d k t0 i t1 u, v = .ref d ∧ (d, tupO [tx "var" t0, .int i t1, u] k) ∈ led ∧ (x = Str.ofString "v" ∨ x = Str.ofString "w")) ∨
  (∃ d k t0 i t1 u, v = .ref d ∧ (d, tupO [tx "param" t0, .int i t1, u] k) ∈ led ∧ x = Str.ofString "p") ∨
  (∃ d k t0 i t1 e k2 t2 b1 b2, v = .ref d ∧ (d, tupO [tx "net" t0, .int i t1, .ref e] k) ∈ led ∧ (e, tupO [tx "" t2, b1, b2] k2) ∈ led ∧ x = Str.ofString "n") ∨
  (∃ d k t0 i t1 e k2 t2 b1 b2, v = .ref d ∧ (d, tupO [tx "net" t0, .int i t1, .ref e] k) ∈ led ∧ (e, tupO [tx "input" t2, b1, b2] k2) ∈ led ∧ x = Str.ofString "i")

/-- one table: its parent, its entries -/
def TabOne (w : World) (led : Led) (a : Addr) (parent : Value) (kvs : List (Str × Value)) : Prop :=
  ∃ d h1 t1 h2 t2 n e oe, (a, instObj 59 d) ∈ led ∧ (d, dictOf [⟨h1, tx "parent" t1, parent⟩, ⟨h2, tx "entries" t2, .ref e⟩] n) ∈ led ∧ (e, oe) ∈ led ∧ (e == sysModules) = false ∧ Obj.IsDictOf (PySem.strKind PySem.Challenge.rw_on0122_01.row.prog w) oe kvs

def TabIn (w : World) (led : Led) (tv : Value) : Prop :=
  ∃ ia oa vv vp vi vw vn, tv = .ref ia ∧ TabOne w led ia (.ref oa) [(Str.ofString "w", .ref vw), (Str.ofString "n", .ref vn)] ∧ TabOne w led oa .none [(Str.ofString "v", .ref vv), (Str.ofString "p", .ref vp), (Str.ofString "i", .ref vi)] ∧
    EntIn led (Str.ofString "v") (.ref vv) ∧ EntIn led (Str.ofString "p") (.ref vp) ∧ EntIn led (Str.ofString "i") (.ref vi) ∧ EntIn led (Str.ofString "w") (.ref vw) ∧ EntIn led (Str.ofString "n") (.ref vn)

theorem EntIn.mono {led led' : Led} (hs : ∀ p ∈ led, p ∈ led') {x : Str} {v : Value} : EntIn led x v → EntIn led' x v := by
  rintro (h | ⟨d, k, t0, i, t1, u, h1, h2, h3⟩ | ⟨d, k, t0, i, t1, u, h1, h2, h3⟩ | ⟨d, k, t0, i, t1, e, k2, t2, b1, b2, h1, h2, h3, h4⟩ | ⟨d, k, t0, i, t1, e, k2, t2, b1, b2, h1, h2, h3, h4⟩)
  · exact .inl h
  · exact .inr (.inl ⟨d, k, t0, i, t1, u, h1, hs _ h2, h3⟩)
  · exact .inr (.inr (.inl ⟨d, k, t0, i, t1, u, h1, hs _ h2, h3⟩))
  · exact .inr (.inr (.inr (.inl ⟨d, k, t0, i, t1, e, k2, t2, b1, b2, h1, hs _ h2, hs _ h3, h4⟩)))
  · exact .inr (.inr (.inr (.inr ⟨d, k, t0, i, t1, e, k2, t2, b1, b2, h1, hs _ h2, hs _ h3, h4⟩)))
theorem TabOne.mono {w : World} {led led' : Led} (hs : ∀ p ∈ led, p ∈ led') {a : Addr} {p : Value} {kvs : List (Str × Value)} : TabOne w led a p kvs → TabOne w led' a p kvs := by
  rintro ⟨d, h1, t1, h2, t2, n, e, oe, a1, a2, a3, a4, a5⟩
  exact ⟨d, h1, t1, h2, t2, n, e, oe, hs _ a1, hs _ a2, hs _ a3, a4, a5⟩
theorem TabIn.mono {w : World} {led led' : Led} (hs : ∀ p ∈ led, p ∈ led') {tv : Value} : TabIn w led tv → TabIn w led' tv := by
  rintro ⟨ia, oa, vv, vp, vi, vw, vn, h0, h1, h2, h3, h4, h5, h6, h7⟩
  exact ⟨ia, oa, vv, vp, vi, vw, vn, h0, h1.mono hs, h2.mono hs, h3.mono hs, h4.mono hs, h5.mono hs, h6.mono hs, h7.mono hs⟩

/-- a call that turns nothing and makes tl -/
def PDoes (w : World) (f : Addr) (cost : Nat) (args : List Value) (rest : Led) (Post : Value → Led → Prop) : Prop :=
  Does w f cost args rest (fun r post => ∃ tl, post = rest ++ tl ∧ (∀ q ∈ rest, ∀ p ∈ tl, @LT.lt Nat _ q.1 p.1) ∧ Post r tl)
theorem PDoes.use {w : World} {f : Addr} {cost : Nat} {args : List Value} {rest : Led} {Post : Value → Led → Prop}
    {dp un : Nat} {gd : Option (List Code)} {env : Env} {outer : List Env} {A₀ : Around} {base h₀ : Heap} {L : Addr} {m : Str → Option Value} {mean : ExcName → Option Value} {mg mb : Str → Option Value} {s : Shared} {Q E : Value → Shared → Prop}
    (B : Below A₀ base outer h₀) (F : Fr h₀ L s.heap m) (X : (hdS.heap_1 w.params).In h₀) (N : News h₀ L s.heap rest) (T : Top hdS.view_1 (looseW hdS.view_1 [Str.ofString "check_target", Str.ofString "check_target_name"]) mean mg mb h₀)
    (fr : env.frame = some L) (kd : env.scope.kind = .function) (D : PDoes w f cost args rest Post) (hdp : dp + cost < recursionLimit) (hun : un + 8 * cost < cLine)
    (ret : ∀ r tl h' tk', Fr h₀ L h' m → News h₀ L h' (rest ++ tl) → (∀ q ∈ rest, ∀ p ∈ tl, @LT.lt Nat _ q.1 p.1) → Post r tl → Q r { s with heap := h', toks := tk' }) :
    wpAny (model PySem.Challenge.rw_on0122_01.row.prog w) { handled := none, depth := dp, frames := some (env :: outer), guards := gd, units := un } (call (.ref f) args) Q E s :=
  D dp un gd env outer A₀ base h₀ L m mean mg mb s Q E ⟨B, F, X, N, T, fr, kd⟩ hdp hun (fun r post h' tk' F' N' ⟨tl, e, hf, hP⟩ => ret r tl h' tk' F' (e ▸ N') hf hP)
theorem PDoes.fin {rest led : Led} {Post : Value → Led → Prop} {h₀ h' : Heap} {L : Addr} {m : Str → Option Value} {s : Shared} {Q : Value → Shared → Prop} {tk' : Nat} {r : Value}
    (hret : ∀ r post h' tk', Fr h₀ L h' m → News h₀ L h' post → (∃ tl, post = rest ++ tl ∧ (∀ q ∈ rest, ∀ p ∈ tl, @LT.lt Nat _ q.1 p.1) ∧ Post r tl) → Q r { s with heap := h', toks := tk' })
    (F' : Fr h₀ L h' m) (N' : News h₀ L h' led) (tl : Led) (hs : ∀ p ∈ rest ++ tl, p ∈ led) (hf : ∀ q ∈ rest, ∀ p ∈ tl, @LT.lt Nat _ q.1 p.1) (hP : Post r tl) : Q r { s with heap := h', toks := tk' } :=
  hret _ _ _ _ F' (News.sub N' hs) ⟨tl, rfl, hf, hP⟩
open PySem PySem.W PySem.Calls PyProof.Rows PySem.Spec
theorem frag_on12 : (hdS.heap_1 = hdS.heap_1 ∧ PySem.Challenge.rw_on0122_01 = PySem.Challenge.rw_on0122_01) := by
  k_fill
  exact ⟨rfl, rfl⟩

set_option maxHeartbeats 8000000 in
theorem find {w : World} {rest : Led} {tv : Value} {x : Str} {t : Tok} (hT : TabIn w rest tv) (hx : Wd x) : PDoes w 70 1 [tv, .str x t] rest (fun r tl => tl = [] ∧ EntIn rest x r) := by
  obtain ⟨ia, oa, vv, vp, vi, vw, vn, rfl, ⟨d1, h1, t1, h2, t2, n1, e1, o1, a1, a2, a3, a4, a5⟩, ⟨d2, h3, t3, h4, t4, n2, e2, o2, b1, b2, b3, b4, b5⟩, c1, c2, c3, c4, c5⟩ := hT
  intro dp un gd env outer A₀ base h₀ L m mean mg mb s Q E HA hd hu hret
  obtain ⟨B, F, X, N, T, fr, kd⟩ := HA
  rcases hx with rfl | rfl | rfl | rfl | rfl | rfl
  all_goals (
    refine wpAny_call ?_
    k_dflt ktr_enter
    repeat' (first | (fail_if_success (with_reducible show wpAny _ _ (exec (Stmt.While _ _ _ _) _) _ _ _)); first | ((with_reducible show wpAny _ _ _ _ _ (Shared.mk _ _ _ (_ + 1 + 1) _)); (refine forgetT ?_); (intro tk9); (try dsimp only)) | ((with_reducible show wpAny _ _ (PySem.exec _ _) _ _ _); ((fail_if_success (refine' hidden_test ?hQ ?_; (case hQ => with_reducible assumption))); (refine' hideQ ?_); (intro Q9 hQ9))) | (k_unfold; (try dsimp only)) | (k_end; wrow_close) | with_reducible (k_here; (with_reducible show wpAny _ _ (getItem (Value.ref _) (Value.str _ _)) _ _ _); k_dflt (refine kdt_getItem (knd := PySem.strKind _ _) (by k_asm) (by k_mem) (by k_asm) (strKind_is _ _ _ _) (by rfl) ?_)) | with_reducible (k_here; (with_reducible show wpAny _ _ (subscriptTail _ _ (Value.ref _) (Value.str _ _)) _ _ _); k_dflt (refine kdt_tail (knd := PySem.strKind _ _) (by k_asm) (by k_mem) (by k_asm) ?_)) | with_reducible (k_here; (with_reducible show wpAny _ _ (compareOp _ (Value.str _ _) (Value.ref _)) _ _ _); k_dflt (first | refine kda_in (knd := PySem.strKind _ _) (by k_asm) (by k_mem) (by k_asm) (by k_asm) (strKind_is _ _ _ _) true (by rfl) ?_ | refine kda_in (knd := PySem.strKind _ _) (by k_asm) (by k_mem) (by k_asm) (by k_asm) (strKind_is _ _ _ _) false (by rfl) ?_)) | walk1 | ((refine' Hid.use ?hQ ?_); (case hQ => with_reducible assumption); (try dsimp only)) | dsimp only | (leave1; try dsimp only at *) | fail "no step")
    refine whl_start 3 ?_
    (repeat' (first | ((with_reducible show wpAny _ _ _ _ _ (Shared.mk _ _ _ (_ + 1 + 1) _)); (refine forgetT ?_); (intro tk9); (try dsimp only)) | ((with_reducible show wpAny _ _ (PySem.exec _ _) _ _ _); ((fail_if_success (refine' hidden_test ?hQ ?_; (case hQ => with_reducible assumption))); (refine' hideQ ?_); (intro Q9 hQ9))) | (k_unfold; (try dsimp only)) | (k_end; wrow_close) | with_reducible (k_here; (with_reducible show wpAny _ _ (getItem (Value.ref _) (Value.str _ _)) _ _ _); k_dflt (refine kdt_getItem (knd := PySem.strKind _ _) (by k_asm) (by k_mem) (by k_asm) (strKind_is _ _ _ _) (by rfl) ?_)) | with_reducible (k_here; (with_reducible show wpAny _ _ (subscriptTail _ _ (Value.ref _) (Value.str _ _)) _ _ _); k_dflt (refine kdt_tail (knd := PySem.strKind _ _) (by k_asm) (by k_mem) (by k_asm) ?_)) | with_reducible (k_here; (with_reducible show wpAny _ _ (compareOp _ (Value.str _ _) (Value.ref _)) _ _ _); k_dflt (first | refine kda_in (knd := PySem.strKind _ _) (by k_asm) (by k_mem) (by k_asm) (by k_asm) (strKind_is _ _ _ _) true (by rfl) ?_ | refine kda_in (knd := PySem.strKind _ _) (by k_asm) (by k_mem) (by k_asm) (by k_asm) (strKind_is _ _ _ _) false (by rfl) ?_)) | walk1 | ((refine' Hid.use ?hQ ?_); (case hQ => with_reducible assumption); (try dsimp only)) | dsimp only | (leave1; (try dsimp only)) | fail "no step"))
    refine' PDoes.fin hret ?F ?N [] ?S (fun _ _ _ h => nomatch h) ⟨rfl, ?E⟩
    (case F => assumption)
    (case N => assumption)
    (case S => (rw [List.append_nil]; exact fun _ h => h))
    (case E => first | assumption | exact .inl ⟨rfl, rfl⟩))
open PySem PySem.W PySem.Calls PyProof.Rows PySem.Spec

def RowIn (led : Led) (v : Value) (d : PyData) : Prop := ∃ a n k t0 i t1 x t2, v = .ref a ∧ (a, tupO [tx k t0, .int i t1, .str x t2] n) ∈ led ∧ d = row k i x
abbrev RowsIn (led : Led) : List Value → Rws → Prop := Paired (RowIn led)
theorem RowIn.mono {led led' : Led} (hs : ∀ p ∈ led, p ∈ led') {v : Value} {d : PyData} : RowIn led v d → RowIn led' v d := by
  rintro ⟨a, n, k, t0, i, t1, x, t2, h1, h2, h3⟩
  exact ⟨a, n, k, t0, i, t1, x, t2, h1, hs _ h2, h3⟩
theorem RowsIn.mono {led led' : Led} (hs : ∀ p ∈ led, p ∈ led') {vs : List Value} {d : Rws} (h : RowsIn led vs d) : RowsIn led' vs d := PPaired.mono (fun _ _ h => h.mono hs) h
theorem paired_append {α β : Type} {F : α → β → Prop} : ∀ {a : List α} {b : List β} {c : List α} {d : List β}, Paired F a b → Paired F c d → Paired F (a ++ c) (b ++ d) := by
  intro a b c d h k
  induction h with
  | nil => exact k
  | cons x _ ih => exact .cons x ih

/-- the report at r, its rows' list at l -/
def RepAt (r l : Addr) (led : Led) : Prop :=
  ∃ dx h1 t1 v1 h2 t2 v2 h3 t3 n, (r, instObj 38 dx) ∈ led ∧ (dx, dictOf [⟨h1, tx "names" t1, v1⟩, ⟨h2, tx "nettype" t2, v2⟩, ⟨h3, tx "rows" t3, .ref l⟩] n) ∈ led
theorem RepAt.mono {r l : Addr} {led led' : Led} (hs : ∀ p ∈ led, p ∈ led') : RepAt r l led → RepAt r l led' := by
  rintro ⟨dx, h1, t1, v1, h2, t2, v2, h3, t3, n, a, b⟩
  exact ⟨dx, h1, t1, v1, h2, t2, v2, h3, t3, n, hs _ a, hs _ b⟩
/-- the rows' list holds the rows -/
def Rep (S : Led) (rows : Rws) (o : Obj) : Prop := ∃ vs n, o = listOf vs.toArray n ∧ RowsIn S vs rows
theorem Rep.mono {S S' : Led} {rows : Rws} {o : Obj} (hs : ∀ p ∈ S, p ∈ S') : Rep S rows o → Rep S' rows o
  | ⟨vs, n, e, h⟩ => ⟨vs, n, e, h.mono hs⟩
theorem Rep.cast {S S' : Led} {rows rows' : Rws} {o : Obj} (h : Rep S rows o) (hs : ∀ p ∈ S, p ∈ S') (e : rows = rows') : Rep S' rows' o := e ▸ h.mono hs
theorem Rep.push {S : Led} {rows : Rws} {vs : List Value} {n : Nat} {v : Value} {d : PyData} (h : RowsIn S vs rows) (hv : RowIn S v d) : Rep S (rows ++ [d]) (listOf (vs ++ [v]).toArray n) := ⟨vs ++ [v], n, rfl, Paired.snoc h hv⟩

theorem MDoes.finN {x D : Addr} {oD o' : Obj} {rest led : Led} {Post : Value → Obj → Led → Prop} {h₀ h' : Heap} {L : Addr} {m : Str → Option Value} {s : Shared} {Q : Value → Shared → Prop} {tk' : Nat} {r : Value}
    (hret : ∀ r post h' tk', Fr h₀ L h' m → News h₀ L h' post → (∃ o' tl, post = (x, o') :: (rest ++ tl) ∧ Fresh x rest tl ∧ Post r o' tl) → Q r { s with heap := h', toks := tk' })
    (F' : Fr h₀ L h' m) (N' : News h₀ L h' ((D, oD) :: (x, o') :: led)) (hs : ∀ p ∈ rest, p ∈ led) (hx : @LT.lt Nat _ x D) (hr : AllLt D rest) (hP : Post r o' [(D, oD)]) : Q r { s with heap := h', toks := tk' } :=
  MDoes.fin hret F' N' o' [(D, oD)] (fun p hp => by
    rcases List.mem_cons.mp hp with rfl | hp
    · exact .tail _ (.head _)
    · rcases List.mem_append.mp hp with hp | hp
      · exact .tail _ (.tail _ (hs _ hp))
      · rw [List.mem_singleton.mp hp]; exact .head _) (Fresh.cons hx hr fresh_nil) hP

theorem RepAt.up {r l : Addr} {led led' : Led} (h : RepAt r l led) (hs : ∀ p ∈ led, p ∈ led') : RepAt r l led' := h.mono hs
theorem TabIn.up {w : World} {led led' : Led} {tv : Value} (h : TabIn w led tv) (hs : ∀ p ∈ led, p ∈ led') : TabIn w led' tv := h.mono hs
open PySem PySem.W PySem.Calls PyProof.Rows PySem.Spec
theorem frag_on14 : (hdS.heap_1 = hdS.heap_1 ∧ PySem.Challenge.rw_on0122_01 = PySem.Challenge.rw_on0122_01) := by
  k_fill
  exact ⟨rfl, rfl⟩

set_option maxHeartbeats 8000000 in
theorem add {w : World} {r l : Addr} {rest S : Led} {old : Rws} {k : String} {t0 : Tok} {i : Int} {t1 : Tok} {x : Str} {t2 : Tok} (hR : RepAt r l rest) (hS : ∀ p ∈ S, p ∈ rest) (hlen : old.length ≤ 100000) :
    MDoes w 35 1 [.ref r, tx k t0, .int i t1, .str x t2] l rest (Rep S old) (fun res o' tl => res = .none ∧ Rep (S ++ tl) (old ++ [row k i x]) o') := by
  obtain ⟨dx, h1, t3, v1, h2, t4, v2, h3, t5, n, a1, a2⟩ := hR
  intro o ⟨vs, n0, e0, hrows⟩ ho dp un gd env outer A₀ base h₀ L m mean mg mb s Q E HA hd hu hret
  subst e0
  have hvl : vs.length ≤ 100000 := by have := Paired.length hrows; omega
  obtain ⟨B, F, X, N, T, fr, kd⟩ := HA
  refine wpAny_call ?_
  k_dflt ktr_enter
  (repeat' (first | ((with_reducible show wpAny _ _ _ _ _ (Shared.mk _ _ _ (_ + 1 + 1) _)); (refine forgetT ?_); (intro tk9); (try dsimp only)) | ((with_reducible show wpAny _ _ (PySem.exec _ _) _ _ _); ((fail_if_success (refine' hidden_test ?hQ ?_; (case hQ => with_reducible assumption))); (refine' hideQ ?_); (intro Q9 hQ9))) | (k_unfold; (try dsimp only)) | (k_end; wrow_close) | ((with_reducible show wpAny _ _ (call _ _ _) _ _ _); (first | with_reducible (k_here; (with_reducible show wpAny _ _ (call (Value.ref 70) [_, Value.str _ _] _) _ _ _); k_dflt (refine' PDoes.use ?k1 ?k2 ?k3 ?k4 ?k5 ?k6 ?k7 (find ?h0 ?h1) ?kd ?ku ?_; (case k1 => k_asm); (case k2 => k_asm); (case k3 => k_asm); (case k4 => k_asm); (case k5 => k_asm); (case k6 => first | exact rfl | assumption); (case k7 => first | exact rfl | assumption); (case h0 => exact TabIn.up (by assumption) (by tb_start)); (case h1 => assumption); (case kd => (try dsimp only [Around.deeper]); omega); (case ku => (try dsimp only [Around.deeper]); omega)); (intro r' tl' h' tk' F' N' hf' hP'); (obtain ⟨e1', hE'⟩ := hP'); (subst e1'); (simp only [List.append_nil] at N'); (try k_sweep); (try dsimp only); k_dflt ((rcases hE' with ⟨hx', hr'⟩ | ⟨d', k', t0', i', t1', u', hr', hm', hx'⟩ | ⟨d', k', t0', i', t1', u', hr', hm', hx'⟩ | ⟨d', k', t0', i', t1', e', k2', t2', b1', b2', hr', hm', hm2', hx'⟩ | ⟨d', k', t0', i', t1', e', k2', t2', b1', b2', hr', hm', hm2', hx'⟩) <;> (subst hr'; (try k_fold)))) | with_reducible (k_here; (with_reducible show wpAny _ _ (call (Value.ref 35) [Value.ref _, Value.str _ _, Value.int _ _, Value.str _ _] _) _ _ _); k_dflt (refine' MDoes.use ?k1 ?k2 ?k3 ?k4 ?k5 ?k6 ?k7 ?kP (add ?h0 ?h1 ?h2) ?kJ ?kO ?kd ?ku ?_; (case k1 => k_asm); (case k2 => k_asm); (case k3 => k_asm); (case k4 => k_asm); (case k5 => k_asm); (case k6 => first | exact rfl | assumption); (case k7 => first | exact rfl | assumption); (case kJ => assumption); (case kP => repeat (first | exact Pick.head | apply Pick.tail)); (case h0 => exact RepAt.up (by assumption) (by tb_start)); (case h1 => tb_start); (case h2 => simp only [List.length_append, List.length_cons, List.length_nil] at *; omega); (case kO => k_all); (case kd => (try dsimp only [Around.deeper]); omega); (case ku => (try dsimp only [Around.deeper]); omega)); (intro r' o' tl' h' tk' F' N' hf' ho' hP'); (obtain ⟨e1', hJ'⟩ := hP'); (subst e1'); (try simp only [List.nil_append, List.cons_append, List.append_nil, List.append_assoc] at N'); (try k_sweep); (try dsimp only); (try k_fold)) | with_reducible (k_here; (with_reducible show wpAny _ _ (call (Value.builtin _) [Value.ref _, _]) _ _ _); k_dflt (refine' append_led ?k1 ?k2 ?k3 ?z ?_; (case k1 => k_asm); (case k2 => k_asm); (case k3 => k_upd); (case z => omega)); intro h' F' N'; (try k_sweep)))) | walk1 | ((refine' Hid.use ?hQ ?_); (case hQ => with_reducible assumption); (try dsimp only)) | dsimp only | (leave1; (try dsimp only)) | fail "no step"))
  refine' MDoes.finN hret ?F ?N ?S ?X ?R ⟨rfl, ?J⟩
  case F => assumption
  case N => assumption
  case S => exact fun _ h => h
  case X => omega
  case R => tbn_find
  case J => exact Rep.push (hrows.mono fun _ h => List.mem_append.mpr (.inl h)) ⟨_, _, _, _, _, _, _, _, rfl, List.mem_append.mpr (.inr (.head _)), rfl⟩

set_option maxHeartbeats 8000000 in
theorem ctn {w : World} {r l : Addr} {rest S : Led} {old : Rws} {tv : Value} {i : Int} {t1 : Tok} {x : Str} {t2 : Tok} (hR : RepAt r l rest) (hS : ∀ p ∈ S, p ∈ rest) (hlen : old.length ≤ 100000 - 1) (hT : TabIn w rest tv) (hx : Wd x) :
    MDoes w 177 3 [.ref r, tv, .int i t1, .str x t2, .bool true, .bool false] l rest (Rep S old) (fun res o' tl => res = .none ∧ Rep (S ++ tl) (old ++ tgRows i x) o') := by
  have hR0 := hR
  obtain ⟨dx, h1, t3, v1, h2, t4, v2, h3, t5, n, a1, a2⟩ := hR0
  intro o hJ ho dp un gd env outer A₀ base h₀ L m mean mg mb s Q E HA hd hu hret
  obtain ⟨B, F, X, N, T, fr, kd⟩ := HA
  refine wpAny_call ?_
  k_dflt ktr_enter
  (repeat' (first | ((with_reducible show wpAny _ _ _ _ _ (Shared.mk _ _ _ (_ + 1 + 1) _)); (refine forgetT ?_); (intro tk9); (try dsimp only)) | ((with_reducible show wpAny _ _ (PySem.exec _ _) _ _ _); ((fail_if_success (refine' hidden_test ?hQ ?_; (case hQ => with_reducible assumption))); (refine' hideQ ?_); (intro Q9 hQ9))) | (k_unfold; (try dsimp only)) | (k_end; wrow_close) | ((with_reducible show wpAny _ _ (call _ _ _) _ _ _); (first | with_reducible (k_here; (with_reducible show wpAny _ _ (call (Value.ref 70) [_, Value.str _ _] _) _ _ _); k_dflt (refine' PDoes.use ?k1 ?k2 ?k3 ?k4 ?k5 ?k6 ?k7 (find ?h0 ?h1) ?kd ?ku ?_; (case k1 => k_asm); (case k2 => k_asm); (case k3 => k_asm); (case k4 => k_asm); (case k5 => k_asm); (case k6 => first | exact rfl | assumption); (case k7 => first | exact rfl | assumption); (case h0 => exact TabIn.up (by assumption) (by tb_start)); (case h1 => assumption); (case kd => (try dsimp only [Around.deeper]); omega); (case ku => (try dsimp only [Around.deeper]); omega)); (intro r' tl' h' tk' F' N' hf' hP'); (obtain ⟨e1', hE'⟩ := hP'); (subst e1'); (simp only [List.append_nil] at N'); (try k_sweep); (try dsimp only); k_dflt ((rcases hE' with ⟨hx', hr'⟩ | ⟨d', k', t0', i', t1', u', hr', hm', hx'⟩ | ⟨d', k', t0', i', t1', u', hr', hm', hx'⟩ | ⟨d', k', t0', i', t1', e', k2', t2', b1', b2', hr', hm', hm2', hx'⟩ | ⟨d', k', t0', i', t1', e', k2', t2', b1', b2', hr', hm', hm2', hx'⟩) <;> (subst hr'; (try k_fold)))) | with_reducible (k_here; (with_reducible show wpAny _ _ (call (Value.ref 35) [Value.ref _, Value.str _ _, Value.int _ _, Value.str _ _] _) _ _ _); k_dflt (refine' MDoes.use ?k1 ?k2 ?k3 ?k4 ?k5 ?k6 ?k7 ?kP (add ?h0 ?h1 ?h2) ?kJ ?kO ?kd ?ku ?_; (case k1 => k_asm); (case k2 => k_asm); (case k3 => k_asm); (case k4 => k_asm); (case k5 => k_asm); (case k6 => first | exact rfl | assumption); (case k7 => first | exact rfl | assumption); (case kJ => assumption); (case kP => repeat (first | exact Pick.head | apply Pick.tail)); (case h0 => exact RepAt.up (by assumption) (by tb_start)); (case h1 => tb_start); (case h2 => simp only [List.length_append, List.length_cons, List.length_nil] at *; omega); (case kO => k_all); (case kd => (try dsimp only [Around.deeper]); omega); (case ku => (try dsimp only [Around.deeper]); omega)); (intro r' o' tl' h' tk' F' N' hf' ho' hP'); (obtain ⟨e1', hJ'⟩ := hP'); (subst e1'); (try simp only [List.nil_append, List.cons_append, List.append_nil, List.append_assoc] at N'); (try k_sweep); (try dsimp only); (try k_fold)) | with_reducible (k_here; (with_reducible show wpAny _ _ (call (Value.builtin _) [Value.ref _, _]) _ _ _); k_dflt (refine' append_led ?k1 ?k2 ?k3 ?z ?_; (case k1 => k_asm); (case k2 => k_asm); (case k3 => k_upd); (case z => omega)); intro h' F' N'; (try k_sweep)))) | walk1 | ((refine' Hid.use ?hQ ?_); (case hQ => with_reducible assumption); (try dsimp only)) | dsimp only | (leave1; (try dsimp only)) | fail "no step"))
  · rename Obj => oo
    refine' MDoes.fin hret ?F ?N oo _ ?S ?H ⟨rfl, ?J⟩
    case F => assumption
    case N => assumption
    case H => assumption
    case S => tb_start
    case J => exact Rep.cast (by assumption) (fun _ h => h) (by simp only [tgRows, *]; rfl)
  · refine' MDoes.fin hret ?F ?N o [] ?S fresh_nil ⟨rfl, ?J⟩
    case F => assumption
    case N => assumption
    case S => (rw [List.append_nil]; tb_start)
    case J =>
      have hx3 : x = Str.ofString "v" ∨ x = Str.ofString "w" := by assumption
      exact Rep.cast hJ (fun _ h => List.mem_append.mpr (.inl h)) (by rcases hx3 with rfl | rfl <;> (rw [show tgRows i _ = [] from rfl, List.append_nil]))
  · rename Obj => oo
    refine' MDoes.fin hret ?F ?N oo _ ?S ?H ⟨rfl, ?J⟩
    case F => assumption
    case N => assumption
    case H => assumption
    case S => tb_start
    case J => exact Rep.cast (by assumption) (fun _ h => h) (by simp only [tgRows, *]; rfl)
  · rename Obj => oo
    refine' MDoes.fin hret ?F ?N oo _ ?S ?H ⟨rfl, ?J⟩
    case F => assumption
    case N => assumption
    case H => assumption
    case S => tb_start
    case J => exact Rep.cast (by assumption) (fun _ h => h) (by simp only [tgRows, *]; rfl)
  · rename Obj => oo
    refine' MDoes.fin hret ?F ?N oo _ ?S ?H ⟨rfl, ?J⟩
    case F => assumption
    case N => assumption
    case H => assumption
    case S => tb_start
    case J => exact Rep.cast (by assumption) (fun _ h => h) (by simp only [tgRows, *]; rfl)
open PySem PySem.W PySem.Calls PyProof.Rows PySem.Spec

abbrev OV := Option Value
section
variable {prog : Program} {w : World} {A : Around} {s₂ : Shared} {env : Env} {h₀ : Heap}

/-- a turn's end: but four names the frame stands -/
def End4 (h₀ : Heap) (L : Addr) (m : Str → OV) (x1 x2 x3 x4 : Str) (own : Led) (K : OV → OV → OV → OV → Led → Prop) (s₁ s₃ : Shared) : Prop :=
  ∃ h' tk' m' led nx, s₃ = { s₁ with heap := h', toks := tk' } ∧ Fr h₀ L h' m' ∧ News h₀ L h' led ∧ (∀ p ∈ nx, p ∈ led) ∧ (∀ p ∈ own, p ∈ led) ∧ (∀ p ∈ own, ∀ q ∈ nx, p.1 ≠ q.1) ∧ (∀ z, z ≠ x1 → z ≠ x2 → z ≠ x3 → z ≠ x4 → m' z = m z) ∧ K (m' x1) (m' x2) (m' x3) (m' x4) nx
def Post4 (h₀ : Heap) (L : Addr) (m : Str → OV) (x1 x2 x3 x4 : Str) (own : Led) (K : OV → OV → OV → OV → Led → Prop) (s₁ : Shared) (Q : Flow → Shared → Prop) (f : Flow) (s₃ : Shared) : Prop :=
  match f with
  | .ret v => Q (.ret v) s₃
  | .brk => Q .next s₃
  | _ => End4 h₀ L m x1 x2 x3 x4 own K s₁ s₃

theorem ovr4_eq {m m' : Str → OV} {x1 x2 x3 x4 : Str} (h : ∀ z, z ≠ x1 → z ≠ x2 → z ≠ x3 → z ≠ x4 → m' z = m z) :
    (fun z => if z = x1 then m' x1 else if z = x2 then m' x2 else if z = x3 then m' x3 else if z = x4 then m' x4 else m z) = m' := by
  funext z
  by_cases h1 : z = x1
  · subst h1; simp
  · by_cases h2 : z = x2
    · subst h2; simp [h1]
    · by_cases h3 : z = x3
      · subst h3; simp [h1, h2]
      · by_cases h4 : z = x4
        · subst h4; simp [h1, h2, h3]
        · simp [h1, h2, h3, h4, h z h1 h2 h3 h4]

theorem for4 {I : Addr} {fp wr : List Addr} {n : Nat} {P : Nat → Value → Prop} {St : Nat → Heap → Prop} {m : Str → OV} {news fix : Led} {target : Expr} {body : List Stmt} {Q : Flow → Shared → Prop} (x1 x2 x3 x4 : Str) (K : Nat → OV → OV → OV → OV → Led → Prop)
    (x : Iter prog w A h₀ env.locals news fix I fp wr n P St s₂.heap) (F : Fr h₀ env.locals s₂.heap m) (N : News h₀ env.locals s₂.heap news) (k0 : K 0 (m x1) (m x2) (m x3) (m x4) news) (hfix : ∀ i u1 u2 u3 u4 nx, K i u1 u2 u3 u4 nx → ∀ p ∈ fix, p ∈ nx)
    (hgo : ∀ i (s' : Shared) v (Q' : Unit → Shared → Prop) E', St i s'.heap → Q' () s' → wpAny (model prog w) A (letOwnedTupleGo target (.ref I) v) Q' E' s')
    (turn : ∀ i v u1 u2 u3 u4 nx own h tk E', i < n → P i v → K i u1 u2 u3 u4 nx → (∀ p ∈ own, ∀ q ∈ nx, p.1 ≠ q.1) → Fr h₀ env.locals h (fun z => if z = x1 then u1 else if z = x2 then u2 else if z = x3 then u3 else if z = x4 then u4 else m z) → News h₀ env.locals h (nx ++ own) →
      wpAny (model prog w) A (assign target env v) (fun _ s₃ => wpAny (model prog w) A (execs body env) (Post4 h₀ env.locals m x1 x2 x3 x4 own (K (i + 1)) { s₂ with heap := h, toks := tk } Q) E' s₃) E' { s₂ with heap := h, toks := tk })
    (done : ∀ u1 u2 u3 u4 nx h tk, K n u1 u2 u3 u4 nx → Fr h₀ env.locals h (fun z => if z = x1 then u1 else if z = x2 then u2 else if z = x3 then u3 else if z = x4 then u4 else m z) → News h₀ env.locals h nx → Q .next { s₂ with heap := h, toks := tk }) :
    ForAt prog w A h₀ env target body Q (.ref I) s₂ := by
  refine ⟨I, fp, wr, n, P, St, m, news, fix, fun i m' nx => ∃ u1 u2 u3 u4, m' = (fun z => if z = x1 then u1 else if z = x2 then u2 else if z = x3 then u3 else if z = x4 then u4 else m z) ∧ K i u1 u2 u3 u4 nx, rfl, x, F, N, ⟨m x1, m x2, m x3, m x4, (ovr4_eq fun _ _ _ _ _ => rfl).symm, k0⟩, ?_, hgo, ?_, ?_⟩
  · rintro i m' nx ⟨u1, u2, u3, u4, _, hK⟩
    exact hfix _ _ _ _ _ _ hK
  · rintro i v m₁ nx own h tk E' hin hP ⟨u1, u2, u3, u4, rfl, hK⟩ hown F' N'
    refine wpAny_mono (turn i v u1 u2 u3 u4 nx own h tk E' hin hP hK hown F' N') (fun _ s₃ h₃ => wpAny_mono h₃ (fun f s₄ h₄ => ?_) fun _ _ e => e) fun _ _ e => e
    have fin : End4 h₀ env.locals m x1 x2 x3 x4 own (K (i + 1)) { s₂ with heap := h, toks := tk } s₄ → LedEnd h₀ env.locals own (fun m' nx => ∃ u1 u2 u3 u4, m' = (fun z => if z = x1 then u1 else if z = x2 then u2 else if z = x3 then u3 else if z = x4 then u4 else m z) ∧ K (i + 1) u1 u2 u3 u4 nx) { s₂ with heap := h, toks := tk } s₄ := by
      rintro ⟨h', tk', m', led, nx', e, F₃, N₃, a, b, c, d, hK'⟩
      exact ⟨h', tk', m', led, nx', e, F₃, N₃, a, b, c, m' x1, m' x2, m' x3, m' x4, (ovr4_eq d).symm, hK'⟩
    cases f with
    | ret v => exact h₄
    | brk => exact h₄
    | next => exact fin h₄
    | cont => exact fin h₄
  · rintro m₁ nx h tk ⟨u1, u2, u3, u4, rfl, hK⟩ F' N'
    exact done u1 u2 u3 u4 nx h tk hK F' N'

/-- a turn's end over a report -/
def RepEnd (h₀ : Heap) (L : Addr) (m : Str → OV) (x1 x2 x3 x4 : Str) (l : Addr) (nb own S : Led) (rows : Rws) (D : OV → OV → OV → OV → Prop) (s₁ : Shared) (Q : Flow → Shared → Prop) (f : Flow) (s₃ : Shared) : Prop :=
  match f with
  | .ret v => Q (.ret v) s₃
  | .brk => Q .next s₃
  | _ => ∃ h' tk' m' o'' tl2, s₃ = { s₁ with heap := h', toks := tk' } ∧ Fr h₀ L h' m' ∧ News h₀ L h' ((l, o'') :: (nb ++ own ++ tl2)) ∧ Fresh l (nb ++ own) tl2 ∧ Rep (S ++ tl2) rows o'' ∧ (∀ z, z ≠ x1 → z ≠ x2 → z ≠ x3 → z ≠ x4 → m' z = m z) ∧ D (m' x1) (m' x2) (m' x3) (m' x4)
theorem RepEnd.intro {h₀ h' : Heap} {L : Addr} {m m' : Str → OV} {x1 x2 x3 x4 : Str} {l : Addr} {nb own S S' tl2 led : Led} {rows rows' : Rws} {D : OV → OV → OV → OV → Prop} {s₁ : Shared} {Q : Flow → Shared → Prop} {tk' : Nat} {o'' : Obj}
    (F : Fr h₀ L h' m') (N : News h₀ L h' led) (hP : Rep S' rows' o'') (P : (l, o'') ∈ led) (hf : Fresh l (nb ++ own) tl2) (hs : ∀ p ∈ nb ++ own ++ tl2, p ∈ led) (hS : ∀ p ∈ S', p ∈ S ++ tl2) (hr : rows' = rows) (hm : ∀ z, z ≠ x1 → z ≠ x2 → z ≠ x3 → z ≠ x4 → m' z = m z) (hD : D (m' x1) (m' x2) (m' x3) (m' x4)) :
    RepEnd h₀ L m x1 x2 x3 x4 l nb own S rows D s₁ Q .next { s₁ with heap := h', toks := tk' } :=
  ⟨h', tk', m', o'', tl2, rfl, F, fun p hp => by
    rcases List.mem_cons.mp hp with rfl | hp
    · exact N _ P
    · exact N p (hs p hp), hf, hP.cast hS hr, hm, hD⟩

theorem paired_get {α β : Type} {F : α → β → Prop} : ∀ {a : List α} {b : List β}, Paired F a b → ∀ (i : Nat) (x : α), a[i]? = some x → ∃ y : β, b[i]? = some y ∧ F x y := by
  intro a b h
  induction h with
  | nil => intro i x e; simp at e
  | cons hx _ ih =>
    intro i x e
    cases i with
    | zero => simp at e; subst e; exact ⟨_, by simp, hx⟩
    | succ i =>
      obtain ⟨y, h1, h2⟩ := ih i x (by simpa using e)
      exact ⟨y, by simpa using h1, h2⟩

theorem flat_take {rss : List Rws} {i : Nat} {y : Rws} (h : rss[i]? = some y) : (rss.take (i + 1)).flatten = (rss.take i).flatten ++ y := by
  rw [List.take_add_one, h, List.flatten_append]; simp
theorem flat_le {rss : List Rws} : ∀ i, ((rss.take i).flatten).length ≤ rss.flatten.length := by
  induction rss with
  | nil => intro i; simp
  | cons a r ih =>
    intro i
    cases i with
    | zero => simp
    | succ i => simp only [List.take_succ_cons, List.flatten_cons, List.length_append]; have := ih i; omega

/-- a loop over a tuple, each item adds its rows to the report -/
theorem for_rep {I l t : Addr} {o : Obj} {nb S : Led} {fp wr : List Addr} {vs : List Value} {k : Nat} {St : Nat → Heap → Prop} {m : Str → OV} {target : Expr} {body : List Stmt} {Q : Flow → Shared → Prop} {old : Rws} {rss : List Rws} (x1 x2 x3 x4 : Str) (Rel : Value → Rws → Prop) (D : Nat → OV → OV → OV → OV → Prop)
    (hp : Paired Rel vs rss)
    (x : Iter prog w A h₀ env.locals ((l, o) :: nb) [(t, ({ cls := .type "tuple", data := .seq vs.toArray k } : Obj))] I fp wr vs.length (fun i v => vs[i]? = some v) St s₂.heap) (F : Fr h₀ env.locals s₂.heap m) (N : News h₀ env.locals s₂.heap ((l, o) :: nb)) (ht : (t, ({ cls := .type "tuple", data := .seq vs.toArray k } : Obj)) ∈ nb)
    (hO : Rep S old o) (hlen : old.length + rss.flatten.length ≤ 90000) (hD : D 0 (m x1) (m x2) (m x3) (m x4))
    (hgo : ∀ i (s' : Shared) v (Q' : Unit → Shared → Prop) E', St i s'.heap → Q' () s' → wpAny (model prog w) A (letOwnedTupleGo target (.ref I) v) Q' E' s')
    (turn : ∀ i v rows u1 u2 u3 u4 o' tl own cur h tk E', vs[i]? = some v → rss[i]? = some rows → Rel v rows → cur.length + rows.length ≤ 90000 → D i u1 u2 u3 u4 → Rep (S ++ tl) cur o' → Off l tl → Off l own →
      Fr h₀ env.locals h (fun z => if z = x1 then u1 else if z = x2 then u2 else if z = x3 then u3 else if z = x4 then u4 else m z) → News h₀ env.locals h ((l, o') :: (nb ++ (tl ++ own))) →
      wpAny (model prog w) A (assign target env v) (fun _ s₃ => wpAny (model prog w) A (execs body env) (RepEnd h₀ env.locals m x1 x2 x3 x4 l nb (tl ++ own) (S ++ tl) (cur ++ rows) (D (i + 1)) { s₂ with heap := h, toks := tk } Q) E' s₃) E' { s₂ with heap := h, toks := tk })
    (done : ∀ u1 u2 u3 u4 o' tl h tk, Rep (S ++ tl) (old ++ rss.flatten) o' → Fresh l nb tl → D vs.length u1 u2 u3 u4 → Fr h₀ env.locals h (fun z => if z = x1 then u1 else if z = x2 then u2 else if z = x3 then u3 else if z = x4 then u4 else m z) → News h₀ env.locals h ((l, o') :: (nb ++ tl)) → Q .next { s₂ with heap := h, toks := tk }) :
    ForAt prog w A h₀ env target body Q (.ref I) s₂ := by
  refine for4 x1 x2 x3 x4 (fun i u1 u2 u3 u4 nx => ∃ o' tl, nx = (l, o') :: (nb ++ tl) ∧ Fresh l nb tl ∧ Rep (S ++ tl) (old ++ (rss.take i).flatten) o' ∧ D i u1 u2 u3 u4) x F N ⟨o, [], by rw [List.append_nil], fresh_nil, by simpa using hO, hD⟩ ?_ hgo ?_ ?_
  · rintro i u1 u2 u3 u4 nx ⟨o', tl, rfl, _⟩ p hp'
    rw [List.mem_singleton.mp hp']
    exact .tail _ (List.mem_append.mpr (.inl ht))
  · rintro i v u1 u2 u3 u4 nx own h tk E' hin hP ⟨o', tl, rfl, hf, hO', hD'⟩ hown F' N'
    obtain ⟨rows, hr, hrel⟩ := paired_get hp i v hP
    have hfl := flat_take hr
    have hle := flat_le (rss := rss) (i + 1)
    rw [hfl, List.length_append] at hle
    refine wpAny_mono (turn i v rows u1 u2 u3 u4 o' tl own _ h tk E' hP hr hrel (by rw [List.length_append]; omega) hD' hO' hf.off (fun p hp e => hown p hp (l, o') (.head _) e) F' (News.sub N' fun p hp => ?_)) (fun _ s₃ h₃ => wpAny_mono h₃ (fun f s₄ h₄ => ?_) fun _ _ e => e) fun _ _ e => e
    · rcases List.mem_cons.mp hp with rfl | hp
      · exact List.mem_append.mpr (.inl (.head _))
      · rcases List.mem_append.mp hp with hp | hp
        · exact List.mem_append.mpr (.inl (.tail _ (List.mem_append.mpr (.inl hp))))
        · rcases List.mem_append.mp hp with hp | hp
          · exact List.mem_append.mpr (.inl (.tail _ (List.mem_append.mpr (.inr hp))))
          · exact List.mem_append.mpr (.inr hp)
    · have fin : (∃ h' tk' m' o'' tl2, s₄ = { ({ s₂ with heap := h, toks := tk } : Shared) with heap := h', toks := tk' } ∧ Fr h₀ env.locals h' m' ∧ News h₀ env.locals h' ((l, o'') :: (nb ++ (tl ++ own) ++ tl2)) ∧ Fresh l (nb ++ (tl ++ own)) tl2 ∧ Rep (S ++ tl ++ tl2) (old ++ (rss.take i).flatten ++ rows) o'' ∧ (∀ z, z ≠ x1 → z ≠ x2 → z ≠ x3 → z ≠ x4 → m' z = m z) ∧ D (i + 1) (m' x1) (m' x2) (m' x3) (m' x4)) →
          End4 h₀ env.locals m x1 x2 x3 x4 own (fun u1 u2 u3 u4 nx => ∃ o' tl, nx = (l, o') :: (nb ++ tl) ∧ Fresh l nb tl ∧ Rep (S ++ tl) (old ++ (rss.take (i + 1)).flatten) o' ∧ D (i + 1) u1 u2 u3 u4) { s₂ with heap := h, toks := tk } s₄ := by
        rintro ⟨h', tk', m', o'', tl2, rfl, F₃, N₃, hf₃, hO₃, hm, hD₃⟩
        refine ⟨h', tk', m', _, (l, o'') :: (nb ++ (tl ++ tl2)), rfl, F₃, N₃, ?_, ?_, ?_, hm, o'', tl ++ tl2, rfl, ?_, ?_, hD₃⟩
        · intro p hp
          rcases List.mem_cons.mp hp with rfl | hp
          · exact .head _
          · refine .tail _ ?_
            rcases List.mem_append.mp hp with hp | hp
            · exact List.mem_append.mpr (.inl (List.mem_append.mpr (.inl hp)))
            · rcases List.mem_append.mp hp with hp | hp
              · exact List.mem_append.mpr (.inl (List.mem_append.mpr (.inr (List.mem_append.mpr (.inl hp)))))
              · exact List.mem_append.mpr (.inr hp)
        · intro p hp
          exact .tail _ (List.mem_append.mpr (.inl (List.mem_append.mpr (.inr (List.mem_append.mpr (.inr hp))))))
        · intro p hp q hq
          rcases List.mem_cons.mp hq with rfl | hq
          · exact hown p hp (l, o') (.head _)
          · rcases List.mem_append.mp hq with hq | hq
            · exact hown p hp q (.tail _ (List.mem_append.mpr (.inl hq)))
            · rcases List.mem_append.mp hq with hq | hq
              · exact hown p hp q (.tail _ (List.mem_append.mpr (.inr hq)))
              · exact hf₃.ne p (List.mem_append.mpr (.inr (List.mem_append.mpr (.inr hp)))) q hq
        · exact hf.append (hf₃.weak fun p hp => List.mem_append.mpr (.inl hp))
        · rw [hfl, ← List.append_assoc, ← List.append_assoc]; exact hO₃
      cases f with
      | ret v => exact h₄
      | brk => exact h₄
      | next => exact fin h₄
      | cont => exact fin h₄
  · rintro u1 u2 u3 u4 nx h tk ⟨o', tl, rfl, hf, hO', hD'⟩ F' N'
    rw [List.take_of_length_le (by rw [Paired.length hp]; exact Nat.le_refl _)] at hO'
    exact done u1 u2 u3 u4 o' tl h tk hO' hf hD' F' N'
end
open PySem PySem.W PySem.Calls PyProof.Rows PySem.Spec

def ChkE (w : World) (n c : Nat) : Prop :=
  ∀ (r l : Addr) (rest S : Led) (old : Rws) (tv v : Value) (rows : Rws), RepAt r l rest → (∀ p ∈ S, p ∈ rest) → old.length + rows.length ≤ 90000 → TabIn w rest tv → ExIn rest n v rows →
    MDoes w 119 c [.ref r, tv, v] l rest (Rep S old) (fun res o' tl => res = .none ∧ Rep (S ++ tl) (old ++ rows) o')
def ChkEach (w : World) (n c : Nat) : Prop :=
  ∀ (r l : Addr) (rest S : Led) (old : Rws) (tv : Value) (b : Addr) (vs : List Value) (nb : Nat) (rss : List Rws), RepAt r l rest → (∀ p ∈ S, p ∈ rest) → old.length + rss.flatten.length ≤ 90000 → TabIn w rest tv → Paired (ExIn rest n) vs rss → (b, tupO vs nb) ∈ rest →
    MDoes w 126 c [.ref r, tv, .ref b] l rest (Rep S old) (fun res o' tl => res = .none ∧ Rep (S ++ tl) (old ++ rss.flatten) o')
theorem ChkE.use {w : World} {n c : Nat} {r l : Addr} {rest S : Led} {old : Rws} {tv v : Value} {rows : Rws} (h0 : RepAt r l rest) (h1 : ∀ p ∈ S, p ∈ rest) (h2 : old.length + rows.length ≤ 90000) (h3 : TabIn w rest tv) (h4 : ExIn rest n v rows) (h5 : ChkE w n c) :
    MDoes w 119 c [.ref r, tv, v] l rest (Rep S old) (fun res o' tl => res = .none ∧ Rep (S ++ tl) (old ++ rows) o') := h5 r l rest S old tv v rows h0 h1 h2 h3 h4
theorem ChkEach.use {w : World} {n c : Nat} {r l : Addr} {rest S : Led} {old : Rws} {tv : Value} {b : Addr} {vs : List Value} {nb : Nat} {rss : List Rws} (h0 : RepAt r l rest) (h1 : ∀ p ∈ S, p ∈ rest) (h2 : old.length + rss.flatten.length ≤ 90000) (h3 : TabIn w rest tv) (h4 : Paired (ExIn rest n) vs rss) (h5 : ChkEach w n c) (h6 : (b, tupO vs nb) ∈ rest) :
    MDoes w 126 c [.ref r, tv, .ref b] l rest (Rep S old) (fun res o' tl => res = .none ∧ Rep (S ++ tl) (old ++ rss.flatten) o') := h5 r l rest S old tv b vs nb rss h0 h1 h2 h3 h4 h6
theorem ChkE.weak {w : World} {n c c' : Nat} (h : ChkE w n c) (hc : c ≤ c') : ChkE w n c' := fun r l rest S old tv v rows h0 h1 h2 h3 h4 => (h r l rest S old tv v rows h0 h1 h2 h3 h4).weak hc fun _ _ _ x => x

theorem idRows_nil {i : Int} {x : Str} (h : x = Str.ofString "v" ∨ x = Str.ofString "w" ∨ x = Str.ofString "p" ∨ x = Str.ofString "n" ∨ x = Str.ofString "i") : idRows i x = [] := by
  rcases h with rfl | rfl | rfl | rfl | rfl <;> rfl

theorem MDoes.finI {x : Addr} {rest led : Led} {Post : Value → Obj → Led → Prop} {h₀ h' : Heap} {L : Addr} {m : Str → Option Value} {s : Shared} {Q : Value → Shared → Prop} {tk' : Nat} {r : Value} {o' : Obj} {tl : Led}
    (hret : ∀ r post h' tk', Fr h₀ L h' m → News h₀ L h' post → (∃ o' tl, post = (x, o') :: (rest ++ tl) ∧ Fresh x rest tl ∧ Post r o' tl) → Q r { s with heap := h', toks := tk' })
    (F' : Fr h₀ L h' m) (N' : News h₀ L h' led) (hs : ∀ p ∈ (x, o') :: (rest ++ tl), p ∈ led) (hf : Fresh x rest tl) (hP : Post r o' tl) : Q r { s with heap := h', toks := tk' } :=
  hret _ _ _ _ F' (News.sub N' hs) ⟨o', tl, rfl, hf, hP⟩
theorem Rep.assoc {S a b : Led} {rows : Rws} {o : Obj} (h : Rep (S ++ a ++ b) rows o) : Rep (S ++ (a ++ b)) rows o := by rw [← List.append_assoc]; exact h
theorem Rep.assoc3 {S a b c : Led} {rows : Rws} {o : Obj} (h : Rep (S ++ a ++ b ++ c) rows o) : Rep (S ++ (a ++ (b ++ c))) rows o := by rw [← List.append_assoc, ← List.append_assoc]; exact h
theorem Rep.nil {S : Led} {rows : Rws} {o : Obj} (h : Rep S rows o) : Rep (S ++ []) rows o := by rw [List.append_nil]; exact h

def ChkS (w : World) (n c : Nat) : Prop :=
  ∀ (r l : Addr) (rest S : Led) (old : Rws) (tv v : Value) (rows : Bool → Rws) (b : Bool), RepAt r l rest → (∀ p ∈ S, p ∈ rest) → old.length + (rows b).length ≤ 90000 → TabIn w rest tv → StIn rest n v rows →
    MDoes w 191 c [.ref r, tv, v, .bool b] l rest (Rep S old) (fun res o' tl => res = .none ∧ Rep (S ++ tl) (old ++ rows b) o')
def ChkC (w : World) (n c : Nat) : Prop :=
  ∀ (r l : Addr) (rest S : Led) (old : Rws) (tv v : Value) (rows : Bool → Rws) (b : Bool), RepAt r l rest → (∀ p ∈ S, p ∈ rest) → old.length + (rows b).length ≤ 90000 → TabIn w rest tv → CaseIn rest (StIn rest n) v rows →
    MDoes w 205 c [.ref r, tv, v, .bool b] l rest (Rep S old) (fun res o' tl => res = .none ∧ Rep (S ++ tl) (old ++ rows b) o')
theorem ChkS.use {w : World} {n c : Nat} {r l : Addr} {rest S : Led} {old : Rws} {tv v : Value} {rows : Bool → Rws} {b : Bool} (h0 : RepAt r l rest) (h1 : ∀ p ∈ S, p ∈ rest) (h2 : old.length + (rows b).length ≤ 90000) (h3 : TabIn w rest tv) (h4 : StIn rest n v rows) (h5 : ChkS w n c) :
    MDoes w 191 c [.ref r, tv, v, .bool b] l rest (Rep S old) (fun res o' tl => res = .none ∧ Rep (S ++ tl) (old ++ rows b) o') := h5 r l rest S old tv v rows b h0 h1 h2 h3 h4
theorem ChkC.use {w : World} {n c : Nat} {r l : Addr} {rest S : Led} {old : Rws} {tv v : Value} {rows : Bool → Rws} {b : Bool} (h0 : RepAt r l rest) (h1 : ∀ p ∈ S, p ∈ rest) (h2 : old.length + (rows b).length ≤ 90000) (h3 : TabIn w rest tv) (h4 : CaseIn rest (StIn rest n) v rows) (h5 : ChkC w n c) :
    MDoes w 205 c [.ref r, tv, v, .bool b] l rest (Rep S old) (fun res o' tl => res = .none ∧ Rep (S ++ tl) (old ++ rows b) o') := h5 r l rest S old tv v rows b h0 h1 h2 h3 h4
theorem ChkS.weak {w : World} {n c c' : Nat} (h : ChkS w n c) (hc : c ≤ c') : ChkS w n c' := fun r l rest S old tv v rows b h0 h1 h2 h3 h4 => (h r l rest S old tv v rows b h0 h1 h2 h3 h4).weak hc fun _ _ _ x => x
theorem CaseIn.up {led led' : Led} {n : Nat} {v : Value} {rows : Bool → Rws} (h : CaseIn led (StIn led n) v rows) (hs : ∀ p ∈ led, p ∈ led') : CaseIn led' (StIn led' n) v rows := h.mono hs fun _ _ h => h.mono hs
theorem tgRows_le {i : Int} {x : Str} : (tgRows i x).length ≤ 1 := by
  unfold tgRows
  (repeat' split) <;> simp

theorem exsUp {led led' : Led} {n : Nat} {vs : List Value} {rss : List Rws} (h : Paired (ExIn led n) vs rss) (hs : ∀ p ∈ led, p ∈ led') : Paired (ExIn led' n) vs rss := PPaired.mono (fun _ _ h => h.mono hs) h
open PySem PySem.W PySem.Calls PyProof.Rows PySem.Spec
theorem frag_on16 : (hdS.heap_1 = hdS.heap_1 ∧ PySem.Challenge.rw_on0122_01 = PySem.Challenge.rw_on0122_01) := by
  k_fill
  exact ⟨rfl, rfl⟩

set_option maxHeartbeats 8000000 in
theorem ct {w : World} {r l b : Addr} {rest S : Led} {old : Rws} {tv : Value} {i : Int} {t0 t1 : Tok} {x : Str} {t2 : Tok} {nb : Nat} (hR : RepAt r l rest) (hS : ∀ p ∈ S, p ∈ rest) (hlen : old.length ≤ 100000 - 1) (hT : TabIn w rest tv) (hx : Wd x) (hm : (b, tupO [tx "id" t0, .int i t1, .str x t2] nb) ∈ rest) :
    MDoes w 169 4 [.ref r, tv, .ref b, .bool true] l rest (Rep S old) (fun res o' tl => res = .none ∧ Rep (S ++ tl) (old ++ tgRows i x) o') := by
  intro o hJ ho dp un gd env outer A₀ base h₀ L m mean mg mb s Q E HA hd hu hret
  obtain ⟨B, F, X, N, T, fr, kd⟩ := HA
  refine wpAny_call ?_
  k_dflt ktr_enter
  (repeat' (first | ((with_reducible show wpAny _ _ _ _ _ (Shared.mk _ _ _ (_ + 1 + 1) _)); (refine forgetT ?_); (intro tk9); (try dsimp only)) | ((with_reducible show wpAny _ _ (PySem.exec _ _) _ _ _); ((fail_if_success (refine' hidden_test ?hQ ?_; (case hQ => with_reducible assumption))); (refine' hideQ ?_); (intro Q9 hQ9))) | (k_unfold; (try dsimp only)) | (k_end; wrow_close) | ((with_reducible show wpAny _ _ (call _ _ _) _ _ _); (first | with_reducible (k_here; (with_reducible show wpAny _ _ (call (Value.ref 126) [Value.ref _, _, Value.ref _] _) _ _ _); k_dflt (refine' MDoes.use ?k1 ?k2 ?k3 ?k4 ?k5 ?k6 ?k7 ?kP (ChkEach.use ?h0 ?h1 ?h2 ?h3 ?h4 ?h5 ?h6) ?kJ ?kO ?kd ?ku ?_; (case k1 => k_asm); (case k2 => k_asm); (case k3 => k_asm); (case k4 => k_asm); (case k5 => k_asm); (case k6 => first | exact rfl | assumption); (case k7 => first | exact rfl | assumption); (case kJ => assumption); (case kP => repeat (first | exact Pick.head | apply Pick.tail)); (case h5 => assumption); (case h0 => exact RepAt.up (by assumption) (by tb_start)); (case h1 => tb_start); (case h3 => exact TabIn.up (by assumption) (by tb_start)); (case h6 => k_mem); (case h4 => first | assumption | exact PPaired.mono (fun _ _ h => ExIn.up h (by tb_start)) (by assumption)); (case h2 => first | omega | (simp only [List.length_append, List.length_cons, List.length_nil] at *; omega)); (case kO => k_all); (case kd => (try dsimp only [Around.deeper]); omega); (case ku => (try dsimp only [Around.deeper]); omega)); (intro r' o' tl' h' tk' F' N' hf' ho' hP'); (obtain ⟨e1', hJ'⟩ := hP'); (subst e1'); (try simp only [List.nil_append, List.cons_append, List.append_nil, List.append_assoc] at N'); (try k_sweep); (try dsimp only); (try k_fold)) | with_reducible (k_here; (with_reducible show wpAny _ _ (call (Value.ref 119) [Value.ref _, _, _] _) _ _ _); k_dflt (refine' MDoes.use ?k1 ?k2 ?k3 ?k4 ?k5 ?k6 ?k7 ?kP (ChkE.use ?h0 ?h1 ?h2 ?h3 ?h4 ?h5) ?kJ ?kO ?kd ?ku ?_; (case k1 => k_asm); (case k2 => k_asm); (case k3 => k_asm); (case k4 => k_asm); (case k5 => k_asm); (case k6 => first | exact rfl | assumption); (case k7 => first | exact rfl | assumption); (case kJ => assumption); (case kP => repeat (first | exact Pick.head | apply Pick.tail)); (case h5 => assumption); (case h0 => exact RepAt.up (by assumption) (by tb_start)); (case h1 => tb_start); (case h3 => exact TabIn.up (by assumption) (by tb_start)); (case h4 => first | assumption | exact ExIn.up (by assumption) (by tb_start)); (case h2 => first | omega | (simp only [List.length_append, List.length_cons, List.length_nil] at *; omega)); (case kO => k_all); (case kd => (try dsimp only [Around.deeper]); omega); (case ku => (try dsimp only [Around.deeper]); omega)); (intro r' o' tl' h' tk' F' N' hf' ho' hP'); (obtain ⟨e1', hJ'⟩ := hP'); (subst e1'); (try simp only [List.nil_append, List.cons_append, List.append_nil, List.append_assoc] at N'); (try k_sweep); (try dsimp only); (try k_fold)) | with_reducible (k_here; (with_reducible show wpAny _ _ (call (Value.ref 70) [_, Value.str _ _] _) _ _ _); k_dflt (refine' PDoes.use ?k1 ?k2 ?k3 ?k4 ?k5 ?k6 ?k7 (find ?h0 ?h1) ?kd ?ku ?_; (case k1 => k_asm); (case k2 => k_asm); (case k3 => k_asm); (case k4 => k_asm); (case k5 => k_asm); (case k6 => first | exact rfl | assumption); (case k7 => first | exact rfl | assumption); (case h0 => exact TabIn.up (by assumption) (by tb_start)); (case h1 => assumption); (case kd => (try dsimp only [Around.deeper]); omega); (case ku => (try dsimp only [Around.deeper]); omega)); (intro r' tl' h' tk' F' N' hf' hP'); (obtain ⟨e1', hE'⟩ := hP'); (subst e1'); (simp only [List.append_nil] at N'); (try k_sweep); (try dsimp only); k_dflt ((rcases hE' with ⟨hx', hr'⟩ | ⟨d', k', t0', i', t1', u', hr', hm', hx'⟩ | ⟨d', k', t0', i', t1', u', hr', hm', hx'⟩ | ⟨d', k', t0', i', t1', e', k2', t2', b1', b2', hr', hm', hm2', hx'⟩ | ⟨d', k', t0', i', t1', e', k2', t2', b1', b2', hr', hm', hm2', hx'⟩) <;> (subst hr'; (try k_fold)))) | with_reducible (k_here; (with_reducible show wpAny _ _ (call (Value.ref 177) [Value.ref _, _, Value.int _ _, Value.str _ _, Value.bool _, Value.bool _] _) _ _ _); k_dflt (refine' MDoes.use ?k1 ?k2 ?k3 ?k4 ?k5 ?k6 ?k7 ?kP (ctn ?h0 ?h1 ?h2 ?h3 ?h4) ?kJ ?kO ?kd ?ku ?_; (case k1 => k_asm); (case k2 => k_asm); (case k3 => k_asm); (case k4 => k_asm); (case k5 => k_asm); (case k6 => first | exact rfl | assumption); (case k7 => first | exact rfl | assumption); (case kJ => assumption); (case kP => repeat (first | exact Pick.head | apply Pick.tail)); (case h0 => exact RepAt.up (by assumption) (by tb_start)); (case h1 => tb_start); (case h2 => first | omega | (simp only [List.length_append, List.length_cons, List.length_nil] at *; omega)); (case h3 => exact TabIn.up (by assumption) (by tb_start)); (case h4 => assumption); (case kO => k_all); (case kd => (try dsimp only [Around.deeper]); omega); (case ku => (try dsimp only [Around.deeper]); omega)); (intro r' o' tl' h' tk' F' N' hf' ho' hP'); (obtain ⟨e1', hJ'⟩ := hP'); (subst e1'); (try simp only [List.nil_append, List.cons_append, List.append_nil, List.append_assoc] at N'); (try k_sweep); (try dsimp only); (try k_fold)) | with_reducible (k_here; (with_reducible show wpAny _ _ (call (Value.ref 35) [Value.ref _, Value.str _ _, Value.int _ _, Value.str _ _] _) _ _ _); k_dflt (refine' MDoes.use ?k1 ?k2 ?k3 ?k4 ?k5 ?k6 ?k7 ?kP (add ?h0 ?h1 ?h2) ?kJ ?kO ?kd ?ku ?_; (case k1 => k_asm); (case k2 => k_asm); (case k3 => k_asm); (case k4 => k_asm); (case k5 => k_asm); (case k6 => first | exact rfl | assumption); (case k7 => first | exact rfl | assumption); (case kJ => assumption); (case kP => repeat (first | exact Pick.head | apply Pick.tail)); (case h0 => exact RepAt.up (by assumption) (by tb_start)); (case h1 => tb_start); (case h2 => simp only [List.length_append, List.length_cons, List.length_nil] at *; omega); (case kO => k_all); (case kd => (try dsimp only [Around.deeper]); omega); (case ku => (try dsimp only [Around.deeper]); omega)); (intro r' o' tl' h' tk' F' N' hf' ho' hP'); (obtain ⟨e1', hJ'⟩ := hP'); (subst e1'); (try simp only [List.nil_append, List.cons_append, List.append_nil, List.append_assoc] at N'); (try k_sweep); (try dsimp only); (try k_fold)) | with_reducible (k_here; (with_reducible show wpAny _ _ (call (Value.builtin _) [Value.ref _, _]) _ _ _); k_dflt (refine' append_led ?k1 ?k2 ?k3 ?z ?_; (case k1 => k_asm); (case k2 => k_asm); (case k3 => k_upd); (case z => omega)); intro h' F' N'; (try k_sweep)))) | walk1 | ((refine' Hid.use ?hQ ?_); (case hQ => with_reducible assumption); (try dsimp only)) | dsimp only | (leave1; (try dsimp only)) | fail "no step"))
  · rename Obj => oo
    refine' MDoes.fin hret ?F ?N oo _ ?S ?H ⟨rfl, ?J⟩
    case F => assumption
    case N => assumption
    case H => first | assumption | tb_rel
    case S => tb_start
    case J => assumption

set_option maxHeartbeats 8000000 in
theorem chkLeaf {w : World} {r l : Addr} {rest S : Led} {old : Rws} {tv v : Value} {rows : Rws} (hR : RepAt r l rest) (hS : ∀ p ∈ S, p ∈ rest) (hlen : old.length + rows.length ≤ 90000) (hT : TabIn w rest tv) (hE : LeafIn rest v rows) :
    MDoes w 119 3 [.ref r, tv, v] l rest (Rep S old) (fun res o' tl => res = .none ∧ Rep (S ++ tl) (old ++ rows) o') := by
  intro o hJ ho dp un gd env outer A₀ base h₀ L m mean mg mb s Q E HA hd hu hret
  obtain ⟨B, F, X, N, T, fr, kd⟩ := HA
  have hR0 := hR
  obtain ⟨dx, h1, t3, v1, h2, t4, v2, h3, t5, n', a1, a2⟩ := hR0
  rcases hE with ⟨a, n, q0, i, q1, x, q2, rfl, hm, hx, rfl⟩ | ⟨a, n, q0, i, q1, rfl, hm, rfl⟩
  all_goals refine wpAny_call ?_
  all_goals k_dflt ktr_enter
  all_goals (repeat' (first | ((with_reducible show wpAny _ _ _ _ _ (Shared.mk _ _ _ (_ + 1 + 1) _)); (refine forgetT ?_); (intro tk9); (try dsimp only)) | ((with_reducible show wpAny _ _ (PySem.exec _ _) _ _ _); ((fail_if_success (refine' hidden_test ?hQ ?_; (case hQ => with_reducible assumption))); (refine' hideQ ?_); (intro Q9 hQ9))) | (k_unfold; (try dsimp only)) | (k_end; wrow_close) | ((with_reducible show wpAny _ _ (call _ _ _) _ _ _); (first | with_reducible (k_here; (with_reducible show wpAny _ _ (call (Value.ref 126) [Value.ref _, _, Value.ref _] _) _ _ _); k_dflt (refine' MDoes.use ?k1 ?k2 ?k3 ?k4 ?k5 ?k6 ?k7 ?kP (ChkEach.use ?h0 ?h1 ?h2 ?h3 ?h4 ?h5 ?h6) ?kJ ?kO ?kd ?ku ?_; (case k1 => k_asm); (case k2 => k_asm); (case k3 => k_asm); (case k4 => k_asm); (case k5 => k_asm); (case k6 => first | exact rfl | assumption); (case k7 => first | exact rfl | assumption); (case kJ => assumption); (case kP => repeat (first | exact Pick.head | apply Pick.tail)); (case h5 => assumption); (case h0 => exact RepAt.up (by assumption) (by tb_start)); (case h1 => tb_start); (case h3 => exact TabIn.up (by assumption) (by tb_start)); (case h6 => k_mem); (case h4 => first | assumption | exact PPaired.mono (fun _ _ h => ExIn.up h (by tb_start)) (by assumption)); (case h2 => first | omega | (simp only [List.length_append, List.length_cons, List.length_nil] at *; omega)); (case kO => k_all); (case kd => (try dsimp only [Around.deeper]); omega); (case ku => (try dsimp only [Around.deeper]); omega)); (intro r' o' tl' h' tk' F' N' hf' ho' hP'); (obtain ⟨e1', hJ'⟩ := hP'); (subst e1'); (try simp only [List.nil_append, List.cons_append, List.append_nil, List.append_assoc] at N'); (try k_sweep); (try dsimp only); (try k_fold)) | with_reducible (k_here; (with_reducible show wpAny _ _ (call (Value.ref 119) [Value.ref _, _, _] _) _ _ _); k_dflt (refine' MDoes.use ?k1 ?k2 ?k3 ?k4 ?k5 ?k6 ?k7 ?kP (ChkE.use ?h0 ?h1 ?h2 ?h3 ?h4 ?h5) ?kJ ?kO ?kd ?ku ?_; (case k1 => k_asm); (case k2 => k_asm); (case k3 => k_asm); (case k4 => k_asm); (case k5 => k_asm); (case k6 => first | exact rfl | assumption); (case k7 => first | exact rfl | assumption); (case kJ => assumption); (case kP => repeat (first | exact Pick.head | apply Pick.tail)); (case h5 => assumption); (case h0 => exact RepAt.up (by assumption) (by tb_start)); (case h1 => tb_start); (case h3 => exact TabIn.up (by assumption) (by tb_start)); (case h4 => first | assumption | exact ExIn.up (by assumption) (by tb_start)); (case h2 => first | omega | (simp only [List.length_append, List.length_cons, List.length_nil] at *; omega)); (case kO => k_all); (case kd => (try dsimp only [Around.deeper]); omega); (case ku => (try dsimp only [Around.deeper]); omega)); (intro r' o' tl' h' tk' F' N' hf' ho' hP'); (obtain ⟨e1', hJ'⟩ := hP'); (subst e1'); (try simp only [List.nil_append, List.cons_append, List.append_nil, List.append_assoc] at N'); (try k_sweep); (try dsimp only); (try k_fold)) | with_reducible (k_here; (with_reducible show wpAny _ _ (call (Value.ref 70) [_, Value.str _ _] _) _ _ _); k_dflt (refine' PDoes.use ?k1 ?k2 ?k3 ?k4 ?k5 ?k6 ?k7 (find ?h0 ?h1) ?kd ?ku ?_; (case k1 => k_asm); (case k2 => k_asm); (case k3 => k_asm); (case k4 => k_asm); (case k5 => k_asm); (case k6 => first | exact rfl | assumption); (case k7 => first | exact rfl | assumption); (case h0 => exact TabIn.up (by assumption) (by tb_start)); (case h1 => assumption); (case kd => (try dsimp only [Around.deeper]); omega); (case ku => (try dsimp only [Around.deeper]); omega)); (intro r' tl' h' tk' F' N' hf' hP'); (obtain ⟨e1', hE'⟩ := hP'); (subst e1'); (simp only [List.append_nil] at N'); (try k_sweep); (try dsimp only); k_dflt ((rcases hE' with ⟨hx', hr'⟩ | ⟨d', k', t0', i', t1', u', hr', hm', hx'⟩ | ⟨d', k', t0', i', t1', u', hr', hm', hx'⟩ | ⟨d', k', t0', i', t1', e', k2', t2', b1', b2', hr', hm', hm2', hx'⟩ | ⟨d', k', t0', i', t1', e', k2', t2', b1', b2', hr', hm', hm2', hx'⟩) <;> (subst hr'; (try k_fold)))) | with_reducible (k_here; (with_reducible show wpAny _ _ (call (Value.ref 177) [Value.ref _, _, Value.int _ _, Value.str _ _, Value.bool _, Value.bool _] _) _ _ _); k_dflt (refine' MDoes.use ?k1 ?k2 ?k3 ?k4 ?k5 ?k6 ?k7 ?kP (ctn ?h0 ?h1 ?h2 ?h3 ?h4) ?kJ ?kO ?kd ?ku ?_; (case k1 => k_asm); (case k2 => k_asm); (case k3 => k_asm); (case k4 => k_asm); (case k5 => k_asm); (case k6 => first | exact rfl | assumption); (case k7 => first | exact rfl | assumption); (case kJ => assumption); (case kP => repeat (first | exact Pick.head | apply Pick.tail)); (case h0 => exact RepAt.up (by assumption) (by tb_start)); (case h1 => tb_start); (case h2 => first | omega | (simp only [List.length_append, List.length_cons, List.length_nil] at *; omega)); (case h3 => exact TabIn.up (by assumption) (by tb_start)); (case h4 => assumption); (case kO => k_all); (case kd => (try dsimp only [Around.deeper]); omega); (case ku => (try dsimp only [Around.deeper]); omega)); (intro r' o' tl' h' tk' F' N' hf' ho' hP'); (obtain ⟨e1', hJ'⟩ := hP'); (subst e1'); (try simp only [List.nil_append, List.cons_append, List.append_nil, List.append_assoc] at N'); (try k_sweep); (try dsimp only); (try k_fold)) | with_reducible (k_here; (with_reducible show wpAny _ _ (call (Value.ref 35) [Value.ref _, Value.str _ _, Value.int _ _, Value.str _ _] _) _ _ _); k_dflt (refine' MDoes.use ?k1 ?k2 ?k3 ?k4 ?k5 ?k6 ?k7 ?kP (add ?h0 ?h1 ?h2) ?kJ ?kO ?kd ?ku ?_; (case k1 => k_asm); (case k2 => k_asm); (case k3 => k_asm); (case k4 => k_asm); (case k5 => k_asm); (case k6 => first | exact rfl | assumption); (case k7 => first | exact rfl | assumption); (case kJ => assumption); (case kP => repeat (first | exact Pick.head | apply Pick.tail)); (case h0 => exact RepAt.up (by assumption) (by tb_start)); (case h1 => tb_start); (case h2 => simp only [List.length_append, List.length_cons, List.length_nil] at *; omega); (case kO => k_all); (case kd => (try dsimp only [Around.deeper]); omega); (case ku => (try dsimp only [Around.deeper]); omega)); (intro r' o' tl' h' tk' F' N' hf' ho' hP'); (obtain ⟨e1', hJ'⟩ := hP'); (subst e1'); (try simp only [List.nil_append, List.cons_append, List.append_nil, List.append_assoc] at N'); (try k_sweep); (try dsimp only); (try k_fold)) | with_reducible (k_here; (with_reducible show wpAny _ _ (call (Value.builtin _) [Value.ref _, _]) _ _ _); k_dflt (refine' append_led ?k1 ?k2 ?k3 ?z ?_; (case k1 => k_asm); (case k2 => k_asm); (case k3 => k_upd); (case z => omega)); intro h' F' N'; (try k_sweep)))) | walk1 | ((refine' Hid.use ?hQ ?_); (case hQ => with_reducible assumption); (try dsimp only)) | dsimp only | (leave1; (try dsimp only)) | fail "no step"))
  · rename Obj => oo
    refine' MDoes.fin hret ?F ?N oo _ ?S ?H ⟨rfl, ?J⟩
    case F => assumption
    case N => assumption
    case H => assumption
    case S => tb_start
    case J => exact Rep.cast (by assumption) (fun _ h => h) (by simp only [idRows, *]; rfl)
  · refine' MDoes.fin hret ?F ?N o [] ?S fresh_nil ⟨rfl, ?J⟩
    case F => assumption
    case N => assumption
    case S => (rw [List.append_nil]; tb_start)
    case J =>
      have hx3 : x = Str.ofString "v" ∨ x = Str.ofString "w" := by assumption
      exact Rep.cast hJ (fun _ h => List.mem_append.mpr (.inl h)) (by rw [idRows_nil (by rcases hx3 with h | h; exact .inl h; exact .inr (.inl h)), List.append_nil])
  · refine' MDoes.fin hret ?F ?N o [] ?S fresh_nil ⟨rfl, ?J⟩
    case F => assumption
    case N => assumption
    case S => (rw [List.append_nil]; tb_start)
    case J =>
      have hx3 : x = Str.ofString "p" := by assumption
      exact Rep.cast hJ (fun _ h => List.mem_append.mpr (.inl h)) (by rw [idRows_nil (.inr (.inr (.inl hx3))), List.append_nil])
  · refine' MDoes.fin hret ?F ?N o [] ?S fresh_nil ⟨rfl, ?J⟩
    case F => assumption
    case N => assumption
    case S => (rw [List.append_nil]; tb_start)
    case J =>
      have hx3 : x = Str.ofString "n" := by assumption
      exact Rep.cast hJ (fun _ h => List.mem_append.mpr (.inl h)) (by rw [idRows_nil (.inr (.inr (.inr (.inl hx3)))), List.append_nil])
  · refine' MDoes.fin hret ?F ?N o [] ?S fresh_nil ⟨rfl, ?J⟩
    case F => assumption
    case N => assumption
    case S => (rw [List.append_nil]; tb_start)
    case J =>
      have hx3 : x = Str.ofString "i" := by assumption
      exact Rep.cast hJ (fun _ h => List.mem_append.mpr (.inl h)) (by rw [idRows_nil (.inr (.inr (.inr (.inr hx3)))), List.append_nil])
  · refine' MDoes.fin hret ?F ?N o [] ?S fresh_nil ⟨rfl, ?J⟩
    case F => assumption
    case N => assumption
    case S => (rw [List.append_nil]; tb_start)
    case J => exact Rep.cast hJ (fun _ h => List.mem_append.mpr (.inl h)) (by rw [List.append_nil])

theorem chkE0 {w : World} : ChkE w 0 3 := fun r l rest S old tv v rows h0 h1 h2 h3 h4 => chkLeaf h0 h1 h2 h3 h4

set_option maxHeartbeats 8000000 in
theorem chkEach {w : World} {n c : Nat} (hC : ChkE w n c) : ChkEach w n (c + 1) := by
  intro r l rest S old tv b vs nb rss hR hS hlen hT hp hm o hJ ho dp un gd env outer A₀ base h₀ L m mean mg mb s Q E HA hd hu hret
  obtain ⟨B, F, X, N, T, fr, kd⟩ := HA
  refine wpAny_call ?_
  k_dflt ktr_enter
  repeat' (first | (fail_if_success (with_reducible show wpAny _ _ (exec (Stmt.For _ _ _ _ _) _) _ _ _)); first | ((with_reducible show wpAny _ _ _ _ _ (Shared.mk _ _ _ (_ + 1 + 1) _)); (refine forgetT ?_); (intro tk9); (try dsimp only)) | ((with_reducible show wpAny _ _ (PySem.exec _ _) _ _ _); ((fail_if_success (refine' hidden_test ?hQ ?_; (case hQ => with_reducible assumption))); (refine' hideQ ?_); (intro Q9 hQ9))) | (k_unfold; (try dsimp only)) | (k_end; wrow_close) | ((with_reducible show wpAny _ _ (call _ _ _) _ _ _); (first | with_reducible (k_here; (with_reducible show wpAny _ _ (call (Value.ref 126) [Value.ref _, _, Value.ref _] _) _ _ _); k_dflt (refine' MDoes.use ?k1 ?k2 ?k3 ?k4 ?k5 ?k6 ?k7 ?kP (ChkEach.use ?h0 ?h1 ?h2 ?h3 ?h4 ?h5 ?h6) ?kJ ?kO ?kd ?ku ?_; (case k1 => k_asm); (case k2 => k_asm); (case k3 => k_asm); (case k4 => k_asm); (case k5 => k_asm); (case k6 => first | exact rfl | assumption); (case k7 => first | exact rfl | assumption); (case kJ => assumption); (case kP => repeat (first | exact Pick.head | apply Pick.tail)); (case h5 => assumption); (case h0 => exact RepAt.up (by assumption) (by tb_start)); (case h1 => tb_start); (case h3 => exact TabIn.up (by assumption) (by tb_start)); (case h6 => k_mem); (case h4 => first | assumption | exact PPaired.mono (fun _ _ h => ExIn.up h (by tb_start)) (by assumption)); (case h2 => first | omega | (simp only [List.length_append, List.length_cons, List.length_nil] at *; omega)); (case kO => k_all); (case kd => (try dsimp only [Around.deeper]); omega); (case ku => (try dsimp only [Around.deeper]); omega)); (intro r' o' tl' h' tk' F' N' hf' ho' hP'); (obtain ⟨e1', hJ'⟩ := hP'); (subst e1'); (try simp only [List.nil_append, List.cons_append, List.append_nil, List.append_assoc] at N'); (try k_sweep); (try dsimp only); (try k_fold)) | with_reducible (k_here; (with_reducible show wpAny _ _ (call (Value.ref 119) [Value.ref _, _, _] _) _ _ _); k_dflt (refine' MDoes.use ?k1 ?k2 ?k3 ?k4 ?k5 ?k6 ?k7 ?kP (ChkE.use ?h0 ?h1 ?h2 ?h3 ?h4 ?h5) ?kJ ?kO ?kd ?ku ?_; (case k1 => k_asm); (case k2 => k_asm); (case k3 => k_asm); (case k4 => k_asm); (case k5 => k_asm); (case k6 => first | exact rfl | assumption); (case k7 => first | exact rfl | assumption); (case kJ => assumption); (case kP => repeat (first | exact Pick.head | apply Pick.tail)); (case h5 => assumption); (case h0 => exact RepAt.up (by assumption) (by tb_start)); (case h1 => tb_start); (case h3 => exact TabIn.up (by assumption) (by tb_start)); (case h4 => first | assumption | exact ExIn.up (by assumption) (by tb_start)); (case h2 => first | omega | (simp only [List.length_append, List.length_cons, List.length_nil] at *; omega)); (case kO => k_all); (case kd => (try dsimp only [Around.deeper]); omega); (case ku => (try dsimp only [Around.deeper]); omega)); (intro r' o' tl' h' tk' F' N' hf' ho' hP'); (obtain ⟨e1', hJ'⟩ := hP'); (subst e1'); (try simp only [List.nil_append, List.cons_append, List.append_nil, List.append_assoc] at N'); (try k_sweep); (try dsimp only); (try k_fold)) | with_reducible (k_here; (with_reducible show wpAny _ _ (call (Value.ref 70) [_, Value.str _ _] _) _ _ _); k_dflt (refine' PDoes.use ?k1 ?k2 ?k3 ?k4 ?k5 ?k6 ?k7 (find ?h0 ?h1) ?kd ?ku ?_; (case k1 => k_asm); (case k2 => k_asm); (case k3 => k_asm); (case k4 => k_asm); (case k5 => k_asm); (case k6 => first | exact rfl | assumption); (case k7 => first | exact rfl | assumption); (case h0 => exact TabIn.up (by assumption) (by tb_start)); (case h1 => assumption); (case kd => (try dsimp only [Around.deeper]); omega); (case ku => (try dsimp only [Around.deeper]); omega)); (intro r' tl' h' tk' F' N' hf' hP'); (obtain ⟨e1', hE'⟩ := hP'); (subst e1'); (simp only [List.append_nil] at N'); (try k_sweep); (try dsimp only); k_dflt ((rcases hE' with ⟨hx', hr'⟩ | ⟨d', k', t0', i', t1', u', hr', hm', hx'⟩ | ⟨d', k', t0', i', t1', u', hr', hm', hx'⟩ | ⟨d', k', t0', i', t1', e', k2', t2', b1', b2', hr', hm', hm2', hx'⟩ | ⟨d', k', t0', i', t1', e', k2', t2', b1', b2', hr', hm', hm2', hx'⟩) <;> (subst hr'; (try k_fold)))) | with_reducible (k_here; (with_reducible show wpAny _ _ (call (Value.ref 177) [Value.ref _, _, Value.int _ _, Value.str _ _, Value.bool _, Value.bool _] _) _ _ _); k_dflt (refine' MDoes.use ?k1 ?k2 ?k3 ?k4 ?k5 ?k6 ?k7 ?kP (ctn ?h0 ?h1 ?h2 ?h3 ?h4) ?kJ ?kO ?kd ?ku ?_; (case k1 => k_asm); (case k2 => k_asm); (case k3 => k_asm); (case k4 => k_asm); (case k5 => k_asm); (case k6 => first | exact rfl | assumption); (case k7 => first | exact rfl | assumption); (case kJ => assumption); (case kP => repeat (first | exact Pick.head | apply Pick.tail)); (case h0 => exact RepAt.up (by assumption) (by tb_start)); (case h1 => tb_start); (case h2 => first | omega | (simp only [List.length_append, List.length_cons, List.length_nil] at *; omega)); (case h3 => exact TabIn.up (by assumption) (by tb_start)); (case h4 => assumption); (case kO => k_all); (case kd => (try dsimp only [Around.deeper]); omega); (case ku => (try dsimp only [Around.deeper]); omega)); (intro r' o' tl' h' tk' F' N' hf' ho' hP'); (obtain ⟨e1', hJ'⟩ := hP'); (subst e1'); (try simp only [List.nil_append, List.cons_append, List.append_nil, List.append_assoc] at N'); (try k_sweep); (try dsimp only); (try k_fold)) | with_reducible (k_here; (with_reducible show wpAny _ _ (call (Value.ref 35) [Value.ref _, Value.str _ _, Value.int _ _, Value.str _ _] _) _ _ _); k_dflt (refine' MDoes.use ?k1 ?k2 ?k3 ?k4 ?k5 ?k6 ?k7 ?kP (add ?h0 ?h1 ?h2) ?kJ ?kO ?kd ?ku ?_; (case k1 => k_asm); (case k2 => k_asm); (case k3 => k_asm); (case k4 => k_asm); (case k5 => k_asm); (case k6 => first | exact rfl | assumption); (case k7 => first | exact rfl | assumption); (case kJ => assumption); (case kP => repeat (first | exact Pick.head | apply Pick.tail)); (case h0 => exact RepAt.up (by assumption) (by tb_start)); (case h1 => tb_start); (case h2 => simp only [List.length_append, List.length_cons, List.length_nil] at *; omega); (case kO => k_all); (case kd => (try dsimp only [Around.deeper]); omega); (case ku => (try dsimp only [Around.deeper]); omega)); (intro r' o' tl' h' tk' F' N' hf' ho' hP'); (obtain ⟨e1', hJ'⟩ := hP'); (subst e1'); (try simp only [List.nil_append, List.cons_append, List.append_nil, List.append_assoc] at N'); (try k_sweep); (try dsimp only); (try k_fold)) | with_reducible (k_here; (with_reducible show wpAny _ _ (call (Value.builtin _) [Value.ref _, _]) _ _ _); k_dflt (refine' append_led ?k1 ?k2 ?k3 ?z ?_; (case k1 => k_asm); (case k2 => k_asm); (case k3 => k_upd); (case z => omega)); intro h' F' N'; (try k_sweep)))) | walk1 | ((refine' Hid.use ?hQ ?_); (case hQ => with_reducible assumption); (try dsimp only)) | dsimp only | (leave1; try dsimp only at *) | fail "no step")
  k_here
  refine' For_ledF ?kh ?_ ?c1
  (case kh => k_asm)
  (case c1 => intro _; with_unfolding_all rfl)
  (repeat' (first | ((with_reducible show wpAny _ _ _ _ _ (Shared.mk _ _ _ (_ + 1 + 1) _)); (refine forgetT ?_); (intro tk9); (try dsimp only)) | ((with_reducible show wpAny _ _ (PySem.exec _ _) _ _ _); ((fail_if_success (refine' hidden_test ?hQ ?_; (case hQ => with_reducible assumption))); (refine' hideQ ?_); (intro Q9 hQ9))) | (k_unfold; (try dsimp only)) | (k_end; wrow_close) | ((with_reducible show wpAny _ _ (call _ _ _) _ _ _); (first | with_reducible (k_here; (with_reducible show wpAny _ _ (call (Value.ref 126) [Value.ref _, _, Value.ref _] _) _ _ _); k_dflt (refine' MDoes.use ?k1 ?k2 ?k3 ?k4 ?k5 ?k6 ?k7 ?kP (ChkEach.use ?h0 ?h1 ?h2 ?h3 ?h4 ?h5 ?h6) ?kJ ?kO ?kd ?ku ?_; (case k1 => k_asm); (case k2 => k_asm); (case k3 => k_asm); (case k4 => k_asm); (case k5 => k_asm); (case k6 => first | exact rfl | assumption); (case k7 => first | exact rfl | assumption); (case kJ => assumption); (case kP => repeat (first | exact Pick.head | apply Pick.tail)); (case h5 => assumption); (case h0 => exact RepAt.up (by assumption) (by tb_start)); (case h1 => tb_start); (case h3 => exact TabIn.up (by assumption) (by tb_start)); (case h6 => k_mem); (case h4 => first | assumption | exact PPaired.mono (fun _ _ h => ExIn.up h (by tb_start)) (by assumption)); (case h2 => first | omega | (simp only [List.length_append, List.length_cons, List.length_nil] at *; omega)); (case kO => k_all); (case kd => (try dsimp only [Around.deeper]); omega); (case ku => (try dsimp only [Around.deeper]); omega)); (intro r' o' tl' h' tk' F' N' hf' ho' hP'); (obtain ⟨e1', hJ'⟩ := hP'); (subst e1'); (try simp only [List.nil_append, List.cons_append, List.append_nil, List.append_assoc] at N'); (try k_sweep); (try dsimp only); (try k_fold)) | with_reducible (k_here; (with_reducible show wpAny _ _ (call (Value.ref 119) [Value.ref _, _, _] _) _ _ _); k_dflt (refine' MDoes.use ?k1 ?k2 ?k3 ?k4 ?k5 ?k6 ?k7 ?kP (ChkE.use ?h0 ?h1 ?h2 ?h3 ?h4 ?h5) ?kJ ?kO ?kd ?ku ?_; (case k1 => k_asm); (case k2 => k_asm); (case k3 => k_asm); (case k4 => k_asm); (case k5 => k_asm); (case k6 => first | exact rfl | assumption); (case k7 => first | exact rfl | assumption); (case kJ => assumption); (case kP => repeat (first | exact Pick.head | apply Pick.tail)); (case h5 => assumption); (case h0 => exact RepAt.up (by assumption) (by tb_start)); (case h1 => tb_start); (case h3 => exact TabIn.up (by assumption) (by tb_start)); (case h4 => first | assumption | exact ExIn.up (by assumption) (by tb_start)); (case h2 => first | omega | (simp only [List.length_append, List.length_cons, List.length_nil] at *; omega)); (case kO => k_all); (case kd => (try dsimp only [Around.deeper]); omega); (case ku => (try dsimp only [Around.deeper]); omega)); (intro r' o' tl' h' tk' F' N' hf' ho' hP'); (obtain ⟨e1', hJ'⟩ := hP'); (subst e1'); (try simp only [List.nil_append, List.cons_append, List.append_nil, List.append_assoc] at N'); (try k_sweep); (try dsimp only); (try k_fold)) | with_reducible (k_here; (with_reducible show wpAny _ _ (call (Value.ref 70) [_, Value.str _ _] _) _ _ _); k_dflt (refine' PDoes.use ?k1 ?k2 ?k3 ?k4 ?k5 ?k6 ?k7 (find ?h0 ?h1) ?kd ?ku ?_; (case k1 => k_asm); (case k2 => k_asm); (case k3 => k_asm); (case k4 => k_asm); (case k5 => k_asm); (case k6 => first | exact rfl | assumption); (case k7 => first | exact rfl | assumption); (case h0 => exact TabIn.up (by assumption) (by tb_start)); (case h1 => assumption); (case kd => (try dsimp only [Around.deeper]); omega); (case ku => (try dsimp only [Around.deeper]); omega)); (intro r' tl' h' tk' F' N' hf' hP'); (obtain ⟨e1', hE'⟩ := hP'); (subst e1'); (simp only [List.append_nil] at N'); (try k_sweep); (try dsimp only); k_dflt ((rcases hE' with ⟨hx', hr'⟩ | ⟨d', k', t0', i', t1', u', hr', hm', hx'⟩ | ⟨d', k', t0', i', t1', u', hr', hm', hx'⟩ | ⟨d', k', t0', i', t1', e', k2', t2', b1', b2', hr', hm', hm2', hx'⟩ | ⟨d', k', t0', i', t1', e', k2', t2', b1', b2', hr', hm', hm2', hx'⟩) <;> (subst hr'; (try k_fold)))) | with_reducible (k_here; (with_reducible show wpAny _ _ (call (Value.ref 177) [Value.ref _, _, Value.int _ _, Value.str _ _, Value.bool _, Value.bool _] _) _ _ _); k_dflt (refine' MDoes.use ?k1 ?k2 ?k3 ?k4 ?k5 ?k6 ?k7 ?kP (ctn ?h0 ?h1 ?h2 ?h3 ?h4) ?kJ ?kO ?kd ?ku ?_; (case k1 => k_asm); (case k2 => k_asm); (case k3 => k_asm); (case k4 => k_asm); (case k5 => k_asm); (case k6 => first | exact rfl | assumption); (case k7 => first | exact rfl | assumption); (case kJ => assumption); (case kP => repeat (first | exact Pick.head | apply Pick.tail)); (case h0 => exact RepAt.up (by assumption) (by tb_start)); (case h1 => tb_start); (case h2 => first | omega | (simp only [List.length_append, List.length_cons, List.length_nil] at *; omega)); (case h3 => exact TabIn.up (by assumption) (by tb_start)); (case h4 => assumption); (case kO => k_all); (case kd => (try dsimp only [Around.deeper]); omega); (case ku => (try dsimp only [Around.deeper]); omega)); (intro r' o' tl' h' tk' F' N' hf' ho' hP'); (obtain ⟨e1', hJ'⟩ := hP'); (subst e1'); (try simp only [List.nil_append, List.cons_append, List.append_nil, List.append_assoc] at N'); (try k_sweep); (try dsimp only); (try k_fold)) | with_reducible (k_here; (with_reducible show wpAny _ _ (call (Value.ref 35) [Value.ref _, Value.str _ _, Value.int _ _, Value.str _ _] _) _ _ _); k_dflt (refine' MDoes.use ?k1 ?k2 ?k3 ?k4 ?k5 ?k6 ?k7 ?kP (add ?h0 ?h1 ?h2) ?kJ ?kO ?kd ?ku ?_; (case k1 => k_asm); (case k2 => k_asm); (case k3 => k_asm); (case k4 => k_asm); (case k5 => k_asm); (case k6 => first | exact rfl | assumption); (case k7 => first | exact rfl | assumption); (case kJ => assumption); (case kP => repeat (first | exact Pick.head | apply Pick.tail)); (case h0 => exact RepAt.up (by assumption) (by tb_start)); (case h1 => tb_start); (case h2 => simp only [List.length_append, List.length_cons, List.length_nil] at *; omega); (case kO => k_all); (case kd => (try dsimp only [Around.deeper]); omega); (case ku => (try dsimp only [Around.deeper]); omega)); (intro r' o' tl' h' tk' F' N' hf' ho' hP'); (obtain ⟨e1', hJ'⟩ := hP'); (subst e1'); (try simp only [List.nil_append, List.cons_append, List.append_nil, List.append_assoc] at N'); (try k_sweep); (try dsimp only); (try k_fold)) | with_reducible (k_here; (with_reducible show wpAny _ _ (call (Value.builtin _) [Value.ref _, _]) _ _ _); k_dflt (refine' append_led ?k1 ?k2 ?k3 ?z ?_; (case k1 => k_asm); (case k2 => k_asm); (case k3 => k_upd); (case z => omega)); intro h' F' N'; (try k_sweep)))) | walk1 | ((refine' Hid.use ?hQ ?_); (case hQ => with_reducible assumption); (try dsimp only)) | dsimp only | (leave1; (try dsimp only)) | fail "no step"))

  refine iter_tuple rfl (by assumption) (by assumption) (List.mem_cons_of_mem _ hm) ?_
  intro I St h1 F1 N1 hI hIt
  refine for_rep (Str.ofString "e") (Str.ofString "e") (Str.ofString "e") (Str.ofString "e") (ExIn rest n) (fun _ _ _ _ _ => True) hp hI F1 N1 hm hJ hlen trivial (fun _ _ _ _ _ _ h => wpAny_pure h) ?_ ?_
  · intro i v rows u1 u2 u3 u4 o' tl own cur h2 tk2 E' hv hr hrel hcl _ hO ho1 ho2 F2 N2
    (repeat' (first | ((with_reducible show wpAny _ _ _ _ _ (Shared.mk _ _ _ (_ + 1 + 1) _)); (refine forgetT ?_); (intro tk9); (try dsimp only)) | ((with_reducible show wpAny _ _ (PySem.exec _ _) _ _ _); ((fail_if_success (refine' hidden_test ?hQ ?_; (case hQ => with_reducible assumption))); (refine' hideQ ?_); (intro Q9 hQ9))) | (k_unfold; (try dsimp only)) | (k_end; wrow_close) | ((with_reducible show wpAny _ _ (call _ _ _) _ _ _); (first | with_reducible (k_here; (with_reducible show wpAny _ _ (call (Value.ref 126) [Value.ref _, _, Value.ref _] _) _ _ _); k_dflt (refine' MDoes.use ?k1 ?k2 ?k3 ?k4 ?k5 ?k6 ?k7 ?kP (ChkEach.use ?h0 ?h1 ?h2 ?h3 ?h4 ?h5 ?h6) ?kJ ?kO ?kd ?ku ?_; (case k1 => k_asm); (case k2 => k_asm); (case k3 => k_asm); (case k4 => k_asm); (case k5 => k_asm); (case k6 => first | exact rfl | assumption); (case k7 => first | exact rfl | assumption); (case kJ => assumption); (case kP => repeat (first | exact Pick.head | apply Pick.tail)); (case h5 => assumption); (case h0 => exact RepAt.up (by assumption) (by tb_start)); (case h1 => tb_start); (case h3 => exact TabIn.up (by assumption) (by tb_start)); (case h6 => k_mem); (case h4 => first | assumption | exact PPaired.mono (fun _ _ h => ExIn.up h (by tb_start)) (by assumption)); (case h2 => first | omega | (simp only [List.length_append, List.length_cons, List.length_nil] at *; omega)); (case kO => k_all); (case kd => (try dsimp only [Around.deeper]); omega); (case ku => (try dsimp only [Around.deeper]); omega)); (intro r' o' tl' h' tk' F' N' hf' ho' hP'); (obtain ⟨e1', hJ'⟩ := hP'); (subst e1'); (try simp only [List.nil_append, List.cons_append, List.append_nil, List.append_assoc] at N'); (try k_sweep); (try dsimp only); (try k_fold)) | with_reducible (k_here; (with_reducible show wpAny _ _ (call (Value.ref 119) [Value.ref _, _, _] _) _ _ _); k_dflt (refine' MDoes.use ?k1 ?k2 ?k3 ?k4 ?k5 ?k6 ?k7 ?kP (ChkE.use ?h0 ?h1 ?h2 ?h3 ?h4 ?h5) ?kJ ?kO ?kd ?ku ?_; (case k1 => k_asm); (case k2 => k_asm); (case k3 => k_asm); (case k4 => k_asm); (case k5 => k_asm); (case k6 => first | exact rfl | assumption); (case k7 => first | exact rfl | assumption); (case kJ => assumption); (case kP => repeat (first | exact Pick.head | apply Pick.tail)); (case h5 => assumption); (case h0 => exact RepAt.up (by assumption) (by tb_start)); (case h1 => tb_start); (case h3 => exact TabIn.up (by assumption) (by tb_start)); (case h4 => first | assumption | exact ExIn.up (by assumption) (by tb_start)); (case h2 => first | omega | (simp only [List.length_append, List.length_cons, List.length_nil] at *; omega)); (case kO => k_all); (case kd => (try dsimp only [Around.deeper]); omega); (case ku => (try dsimp only [Around.deeper]); omega)); (intro r' o' tl' h' tk' F' N' hf' ho' hP'); (obtain ⟨e1', hJ'⟩ := hP'); (subst e1'); (try simp only [List.nil_append, List.cons_append, List.append_nil, List.append_assoc] at N'); (try k_sweep); (try dsimp only); (try k_fold)) | with_reducible (k_here; (with_reducible show wpAny _ _ (call (Value.ref 70) [_, Value.str _ _] _) _ _ _); k_dflt (refine' PDoes.use ?k1 ?k2 ?k3 ?k4 ?k5 ?k6 ?k7 (find ?h0 ?h1) ?kd ?ku ?_; (case k1 => k_asm); (case k2 => k_asm); (case k3 => k_asm); (case k4 => k_asm); (case k5 => k_asm); (case k6 => first | exact rfl | assumption); (case k7 => first | exact rfl | assumption); (case h0 => exact TabIn.up (by assumption) (by tb_start)); (case h1 => assumption); (case kd => (try dsimp only [Around.deeper]); omega); (case ku => (try dsimp only [Around.deeper]); omega)); (intro r' tl' h' tk' F' N' hf' hP'); (obtain ⟨e1', hE'⟩ := hP'); (subst e1'); (simp only [List.append_nil] at N'); (try k_sweep); (try dsimp only); k_dflt ((rcases hE' with ⟨hx', hr'⟩ | ⟨d', k', t0', i', t1', u', hr', hm', hx'⟩ | ⟨d', k', t0', i', t1', u', hr', hm', hx'⟩ | ⟨d', k', t0', i', t1', e', k2', t2', b1', b2', hr', hm', hm2', hx'⟩ | ⟨d', k', t0', i', t1', e', k2', t2', b1', b2', hr', hm', hm2', hx'⟩) <;> (subst hr'; (try k_fold)))) | with_reducible (k_here; (with_reducible show wpAny _ _ (call (Value.ref 177) [Value.ref _, _, Value.int _ _, Value.str _ _, Value.bool _, Value.bool _] _) _ _ _); k_dflt (refine' MDoes.use ?k1 ?k2 ?k3 ?k4 ?k5 ?k6 ?k7 ?kP (ctn ?h0 ?h1 ?h2 ?h3 ?h4) ?kJ ?kO ?kd ?ku ?_; (case k1 => k_asm); (case k2 => k_asm); (case k3 => k_asm); (case k4 => k_asm); (case k5 => k_asm); (case k6 => first | exact rfl | assumption); (case k7 => first | exact rfl | assumption); (case kJ => assumption); (case kP => repeat (first | exact Pick.head | apply Pick.tail)); (case h0 => exact RepAt.up (by assumption) (by tb_start)); (case h1 => tb_start); (case h2 => first | omega | (simp only [List.length_append, List.length_cons, List.length_nil] at *; omega)); (case h3 => exact TabIn.up (by assumption) (by tb_start)); (case h4 => assumption); (case kO => k_all); (case kd => (try dsimp only [Around.deeper]); omega); (case ku => (try dsimp only [Around.deeper]); omega)); (intro r' o' tl' h' tk' F' N' hf' ho' hP'); (obtain ⟨e1', hJ'⟩ := hP'); (subst e1'); (try simp only [List.nil_append, List.cons_append, List.append_nil, List.append_assoc] at N'); (try k_sweep); (try dsimp only); (try k_fold)) | with_reducible (k_here; (with_reducible show wpAny _ _ (call (Value.ref 35) [Value.ref _, Value.str _ _, Value.int _ _, Value.str _ _] _) _ _ _); k_dflt (refine' MDoes.use ?k1 ?k2 ?k3 ?k4 ?k5 ?k6 ?k7 ?kP (add ?h0 ?h1 ?h2) ?kJ ?kO ?kd ?ku ?_; (case k1 => k_asm); (case k2 => k_asm); (case k3 => k_asm); (case k4 => k_asm); (case k5 => k_asm); (case k6 => first | exact rfl | assumption); (case k7 => first | exact rfl | assumption); (case kJ => assumption); (case kP => repeat (first | exact Pick.head | apply Pick.tail)); (case h0 => exact RepAt.up (by assumption) (by tb_start)); (case h1 => tb_start); (case h2 => simp only [List.length_append, List.length_cons, List.length_nil] at *; omega); (case kO => k_all); (case kd => (try dsimp only [Around.deeper]); omega); (case ku => (try dsimp only [Around.deeper]); omega)); (intro r' o' tl' h' tk' F' N' hf' ho' hP'); (obtain ⟨e1', hJ'⟩ := hP'); (subst e1'); (try simp only [List.nil_append, List.cons_append, List.append_nil, List.append_assoc] at N'); (try k_sweep); (try dsimp only); (try k_fold)) | with_reducible (k_here; (with_reducible show wpAny _ _ (call (Value.builtin _) [Value.ref _, _]) _ _ _); k_dflt (refine' append_led ?k1 ?k2 ?k3 ?z ?_; (case k1 => k_asm); (case k2 => k_asm); (case k3 => k_upd); (case z => omega)); intro h' F' N'; (try k_sweep)))) | walk1 | ((refine' Hid.use ?hQ ?_); (case hQ => with_reducible assumption); (try dsimp only)) | dsimp only | (leave1; (try dsimp only)) | fail "no step"))
    refine' RepEnd.intro ?F ?N ?J ?P ?H ?S ?SS rfl ?M ?D
    case F => assumption
    case N => assumption
    case J => assumption
    case P => k_mem
    case SS => exact fun _ h => h
    case H => tb_rel
    case S => tb_start
    case M => (intro z h1 h2 h3 h4; simp only [if_neg h1, if_neg h2, if_neg h3, if_neg h4])
    case D => trivial
  · intro u1 u2 u3 u4 o' tl h2 tk2 hO hf _ F2 N2
    (repeat' (first | ((with_reducible show wpAny _ _ _ _ _ (Shared.mk _ _ _ (_ + 1 + 1) _)); (refine forgetT ?_); (intro tk9); (try dsimp only)) | ((with_reducible show wpAny _ _ (PySem.exec _ _) _ _ _); ((fail_if_success (refine' hidden_test ?hQ ?_; (case hQ => with_reducible assumption))); (refine' hideQ ?_); (intro Q9 hQ9))) | (k_unfold; (try dsimp only)) | (k_end; wrow_close) | ((with_reducible show wpAny _ _ (call _ _ _) _ _ _); (first | with_reducible (k_here; (with_reducible show wpAny _ _ (call (Value.ref 126) [Value.ref _, _, Value.ref _] _) _ _ _); k_dflt (refine' MDoes.use ?k1 ?k2 ?k3 ?k4 ?k5 ?k6 ?k7 ?kP (ChkEach.use ?h0 ?h1 ?h2 ?h3 ?h4 ?h5 ?h6) ?kJ ?kO ?kd ?ku ?_; (case k1 => k_asm); (case k2 => k_asm); (case k3 => k_asm); (case k4 => k_asm); (case k5 => k_asm); (case k6 => first | exact rfl | assumption); (case k7 => first | exact rfl | assumption); (case kJ => assumption); (case kP => repeat (first | exact Pick.head | apply Pick.tail)); (case h5 => assumption); (case h0 => exact RepAt.up (by assumption) (by tb_start)); (case h1 => tb_start); (case h3 => exact TabIn.up (by assumption) (by tb_start)); (case h6 => k_mem); (case h4 => first | assumption | exact PPaired.mono (fun _ _ h => ExIn.up h (by tb_start)) (by assumption)); (case h2 => first | omega | (simp only [List.length_append, List.length_cons, List.length_nil] at *; omega)); (case kO => k_all); (case kd => (try dsimp only [Around.deeper]); omega); (case ku => (try dsimp only [Around.deeper]); omega)); (intro r' o' tl' h' tk' F' N' hf' ho' hP'); (obtain ⟨e1', hJ'⟩ := hP'); (subst e1'); (try simp only [List.nil_append, List.cons_append, List.append_nil, List.append_assoc] at N'); (try k_sweep); (try dsimp only); (try k_fold)) | with_reducible (k_here; (with_reducible show wpAny _ _ (call (Value.ref 119) [Value.ref _, _, _] _) _ _ _); k_dflt (refine' MDoes.use ?k1 ?k2 ?k3 ?k4 ?k5 ?k6 ?k7 ?kP (ChkE.use ?h0 ?h1 ?h2 ?h3 ?h4 ?h5) ?kJ ?kO ?kd ?ku ?_; (case k1 => k_asm); (case k2 => k_asm); (case k3 => k_asm); (case k4 => k_asm); (case k5 => k_asm); (case k6 => first | exact rfl | assumption); (case k7 => first | exact rfl | assumption); (case kJ => assumption); (case kP => repeat (first | exact Pick.head | apply Pick.tail)); (case h5 => assumption); (case h0 => exact RepAt.up (by assumption) (by tb_start)); (case h1 => tb_start); (case h3 => exact TabIn.up (by assumption) (by tb_start)); (case h4 => first | assumption | exact ExIn.up (by assumption) (by tb_start)); (case h2 => first | omega | (simp only [List.length_append, List.length_cons, List.length_nil] at *; omega)); (case kO => k_all); (case kd => (try dsimp only [Around.deeper]); omega); (case ku => (try dsimp only [Around.deeper]); omega)); (intro r' o' tl' h' tk' F' N' hf' ho' hP'); (obtain ⟨e1', hJ'⟩ := hP'); (subst e1'); (try simp only [List.nil_append, List.cons_append, List.append_nil, List.append_assoc] at N'); (try k_sweep); (try dsimp only); (try k_fold)) | with_reducible (k_here; (with_reducible show wpAny _ _ (call (Value.ref 70) [_, Value.str _ _] _) _ _ _); k_dflt (refine' PDoes.use ?k1 ?k2 ?k3 ?k4 ?k5 ?k6 ?k7 (find ?h0 ?h1) ?kd ?ku ?_; (case k1 => k_asm); (case k2 => k_asm); (case k3 => k_asm); (case k4 => k_asm); (case k5 => k_asm); (case k6 => first | exact rfl | assumption); (case k7 => first | exact rfl | assumption); (case h0 => exact TabIn.up (by assumption) (by tb_start)); (case h1 => assumption); (case kd => (try dsimp only [Around.deeper]); omega); (case ku => (try dsimp only [Around.deeper]); omega)); (intro r' tl' h' tk' F' N' hf' hP'); (obtain ⟨e1', hE'⟩ := hP'); (subst e1'); (simp only [List.append_nil] at N'); (try k_sweep); (try dsimp only); k_dflt ((rcases hE' with ⟨hx', hr'⟩ | ⟨d', k', t0', i', t1', u', hr', hm', hx'⟩ | ⟨d', k', t0', i', t1', u', hr', hm', hx'⟩ | ⟨d', k', t0', i', t1', e', k2', t2', b1', b2', hr', hm', hm2', hx'⟩ | ⟨d', k', t0', i', t1', e', k2', t2', b1', b2', hr', hm', hm2', hx'⟩) <;> (subst hr'; (try k_fold)))) | with_reducible (k_here; (with_reducible show wpAny _ _ (call (Value.ref 177) [Value.ref _, _, Value.int _ _, Value.str _ _, Value.bool _, Value.bool _] _) _ _ _); k_dflt (refine' MDoes.use ?k1 ?k2 ?k3 ?k4 ?k5 ?k6 ?k7 ?kP (ctn ?h0 ?h1 ?h2 ?h3 ?h4) ?kJ ?kO ?kd ?ku ?_; (case k1 => k_asm); (case k2 => k_asm); (case k3 => k_asm); (case k4 => k_asm); (case k5 => k_asm); (case k6 => first | exact rfl | assumption); (case k7 => first | exact rfl | assumption); (case kJ => assumption); (case kP => repeat (first | exact Pick.head | apply Pick.tail)); (case h0 => exact RepAt.up (by assumption) (by tb_start)); (case h1 => tb_start); (case h2 => first | omega | (simp only [List.length_append, List.length_cons, List.length_nil] at *; omega)); (case h3 => exact TabIn.up (by assumption) (by tb_start)); (case h4 => assumption); (case kO => k_all); (case kd => (try dsimp only [Around.deeper]); omega); (case ku => (try dsimp only [Around.deeper]); omega)); (intro r' o' tl' h' tk' F' N' hf' ho' hP'); (obtain ⟨e1', hJ'⟩ := hP'); (subst e1'); (try simp only [List.nil_append, List.cons_append, List.append_nil, List.append_assoc] at N'); (try k_sweep); (try dsimp only); (try k_fold)) | with_reducible (k_here; (with_reducible show wpAny _ _ (call (Value.ref 35) [Value.ref _, Value.str _ _, Value.int _ _, Value.str _ _] _) _ _ _); k_dflt (refine' MDoes.use ?k1 ?k2 ?k3 ?k4 ?k5 ?k6 ?k7 ?kP (add ?h0 ?h1 ?h2) ?kJ ?kO ?kd ?ku ?_; (case k1 => k_asm); (case k2 => k_asm); (case k3 => k_asm); (case k4 => k_asm); (case k5 => k_asm); (case k6 => first | exact rfl | assumption); (case k7 => first | exact rfl | assumption); (case kJ => assumption); (case kP => repeat (first | exact Pick.head | apply Pick.tail)); (case h0 => exact RepAt.up (by assumption) (by tb_start)); (case h1 => tb_start); (case h2 => simp only [List.length_append, List.length_cons, List.length_nil] at *; omega); (case kO => k_all); (case kd => (try dsimp only [Around.deeper]); omega); (case ku => (try dsimp only [Around.deeper]); omega)); (intro r' o' tl' h' tk' F' N' hf' ho' hP'); (obtain ⟨e1', hJ'⟩ := hP'); (subst e1'); (try simp only [List.nil_append, List.cons_append, List.append_nil, List.append_assoc] at N'); (try k_sweep); (try dsimp only); (try k_fold)) | with_reducible (k_here; (with_reducible show wpAny _ _ (call (Value.builtin _) [Value.ref _, _]) _ _ _); k_dflt (refine' append_led ?k1 ?k2 ?k3 ?z ?_; (case k1 => k_asm); (case k2 => k_asm); (case k3 => k_upd); (case z => omega)); intro h' F' N'; (try k_sweep)))) | walk1 | ((refine' Hid.use ?hQ ?_); (case hQ => with_reducible assumption); (try dsimp only)) | dsimp only | (leave1; (try dsimp only)) | fail "no step"))
    refine' MDoes.fin hret ?F ?N o' tl ?S hf ⟨rfl, hO⟩
    case F => assumption
    case N => assumption
    case S => tb_start

set_option maxHeartbeats 8000000 in
theorem chkE1 {w : World} : ChkE w 1 5 := by
  intro r l rest S old tv v rows hR hS hlen hT hE
  have hc0 : ChkE w 0 4 := chkE0.weak (by omega)
  have he0 : ChkEach w 0 4 := chkEach chkE0
  rcases hE with hE | ⟨a, n, q0, i, q1, q2, e1, e2, rl, rr, rfl, hm, hE1, hE2, rfl⟩ | ⟨a, n, q0, i, q1, b, nb, vs, rss, rfl, hm, hb, hl, hp, rfl⟩
  · exact (chkLeaf hR hS hlen hT hE).weak (by omega) fun _ _ _ x => x
  · rw [List.length_append] at hlen
    intro o hJ ho dp un gd env outer A₀ base h₀ L m mean mg mb s Q E HA hd hu hret
    obtain ⟨B, F, X, N, T, fr, kd⟩ := HA
    refine wpAny_call ?_
    k_dflt ktr_enter
    (repeat' (first | ((with_reducible show wpAny _ _ _ _ _ (Shared.mk _ _ _ (_ + 1 + 1) _)); (refine forgetT ?_); (intro tk9); (try dsimp only)) | ((with_reducible show wpAny _ _ (PySem.exec _ _) _ _ _); ((fail_if_success (refine' hidden_test ?hQ ?_; (case hQ => with_reducible assumption))); (refine' hideQ ?_); (intro Q9 hQ9))) | (k_unfold; (try dsimp only)) | (k_end; wrow_close) | ((with_reducible show wpAny _ _ (call _ _ _) _ _ _); (first | with_reducible (k_here; (with_reducible show wpAny _ _ (call (Value.ref 126) [Value.ref _, _, Value.ref _] _) _ _ _); k_dflt (refine' MDoes.use ?k1 ?k2 ?k3 ?k4 ?k5 ?k6 ?k7 ?kP (ChkEach.use ?h0 ?h1 ?h2 ?h3 ?h4 ?h5 ?h6) ?kJ ?kO ?kd ?ku ?_; (case k1 => k_asm); (case k2 => k_asm); (case k3 => k_asm); (case k4 => k_asm); (case k5 => k_asm); (case k6 => first | exact rfl | assumption); (case k7 => first | exact rfl | assumption); (case kJ => assumption); (case kP => repeat (first | exact Pick.head | apply Pick.tail)); (case h5 => assumption); (case h0 => exact RepAt.up (by assumption) (by tb_start)); (case h1 => tb_start); (case h3 => exact TabIn.up (by assumption) (by tb_start)); (case h6 => k_mem); (case h4 => first | assumption | exact PPaired.mono (fun _ _ h => ExIn.up h (by tb_start)) (by assumption)); (case h2 => first | omega | (simp only [List.length_append, List.length_cons, List.length_nil] at *; omega)); (case kO => k_all); (case kd => (try dsimp only [Around.deeper]); omega); (case ku => (try dsimp only [Around.deeper]); omega)); (intro r' o' tl' h' tk' F' N' hf' ho' hP'); (obtain ⟨e1', hJ'⟩ := hP'); (subst e1'); (try simp only [List.nil_append, List.cons_append, List.append_nil, List.append_assoc] at N'); (try k_sweep); (try dsimp only); (try k_fold)) | with_reducible (k_here; (with_reducible show wpAny _ _ (call (Value.ref 119) [Value.ref _, _, _] _) _ _ _); k_dflt (refine' MDoes.use ?k1 ?k2 ?k3 ?k4 ?k5 ?k6 ?k7 ?kP (ChkE.use ?h0 ?h1 ?h2 ?h3 ?h4 ?h5) ?kJ ?kO ?kd ?ku ?_; (case k1 => k_asm); (case k2 => k_asm); (case k3 => k_asm); (case k4 => k_asm); (case k5 => k_asm); (case k6 => first | exact rfl | assumption); (case k7 => first | exact rfl | assumption); (case kJ => assumption); (case kP => repeat (first | exact Pick.head | apply Pick.tail)); (case h5 => assumption); (case h0 => exact RepAt.up (by assumption) (by tb_start)); (case h1 => tb_start); (case h3 => exact TabIn.up (by assumption) (by tb_start)); (case h4 => first | assumption | exact ExIn.up (by assumption) (by tb_start)); (case h2 => first | omega | (simp only [List.length_append, List.length_cons, List.length_nil] at *; omega)); (case kO => k_all); (case kd => (try dsimp only [Around.deeper]); omega); (case ku => (try dsimp only [Around.deeper]); omega)); (intro r' o' tl' h' tk' F' N' hf' ho' hP'); (obtain ⟨e1', hJ'⟩ := hP'); (subst e1'); (try simp only [List.nil_append, List.cons_append, List.append_nil, List.append_assoc] at N'); (try k_sweep); (try dsimp only); (try k_fold)) | with_reducible (k_here; (with_reducible show wpAny _ _ (call (Value.ref 70) [_, Value.str _ _] _) _ _ _); k_dflt (refine' PDoes.use ?k1 ?k2 ?k3 ?k4 ?k5 ?k6 ?k7 (find ?h0 ?h1) ?kd ?ku ?_; (case k1 => k_asm); (case k2 => k_asm); (case k3 => k_asm); (case k4 => k_asm); (case k5 => k_asm); (case k6 => first | exact rfl | assumption); (case k7 => first | exact rfl | assumption); (case h0 => exact TabIn.up (by assumption) (by tb_start)); (case h1 => assumption); (case kd => (try dsimp only [Around.deeper]); omega); (case ku => (try dsimp only [Around.deeper]); omega)); (intro r' tl' h' tk' F' N' hf' hP'); (obtain ⟨e1', hE'⟩ := hP'); (subst e1'); (simp only [List.append_nil] at N'); (try k_sweep); (try dsimp only); k_dflt ((rcases hE' with ⟨hx', hr'⟩ | ⟨d', k', t0', i', t1', u', hr', hm', hx'⟩ | ⟨d', k', t0', i', t1', u', hr', hm', hx'⟩ | ⟨d', k', t0', i', t1', e', k2', t2', b1', b2', hr', hm', hm2', hx'⟩ | ⟨d', k', t0', i', t1', e', k2', t2', b1', b2', hr', hm', hm2', hx'⟩) <;> (subst hr'; (try k_fold)))) | with_reducible (k_here; (with_reducible show wpAny _ _ (call (Value.ref 177) [Value.ref _, _, Value.int _ _, Value.str _ _, Value.bool _, Value.bool _] _) _ _ _); k_dflt (refine' MDoes.use ?k1 ?k2 ?k3 ?k4 ?k5 ?k6 ?k7 ?kP (ctn ?h0 ?h1 ?h2 ?h3 ?h4) ?kJ ?kO ?kd ?ku ?_; (case k1 => k_asm); (case k2 => k_asm); (case k3 => k_asm); (case k4 => k_asm); (case k5 => k_asm); (case k6 => first | exact rfl | assumption); (case k7 => first | exact rfl | assumption); (case kJ => assumption); (case kP => repeat (first | exact Pick.head | apply Pick.tail)); (case h0 => exact RepAt.up (by assumption) (by tb_start)); (case h1 => tb_start); (case h2 => first | omega | (simp only [List.length_append, List.length_cons, List.length_nil] at *; omega)); (case h3 => exact TabIn.up (by assumption) (by tb_start)); (case h4 => assumption); (case kO => k_all); (case kd => (try dsimp only [Around.deeper]); omega); (case ku => (try dsimp only [Around.deeper]); omega)); (intro r' o' tl' h' tk' F' N' hf' ho' hP'); (obtain ⟨e1', hJ'⟩ := hP'); (subst e1'); (try simp only [List.nil_append, List.cons_append, List.append_nil, List.append_assoc] at N'); (try k_sweep); (try dsimp only); (try k_fold)) | with_reducible (k_here; (with_reducible show wpAny _ _ (call (Value.ref 35) [Value.ref _, Value.str _ _, Value.int _ _, Value.str _ _] _) _ _ _); k_dflt (refine' MDoes.use ?k1 ?k2 ?k3 ?k4 ?k5 ?k6 ?k7 ?kP (add ?h0 ?h1 ?h2) ?kJ ?kO ?kd ?ku ?_; (case k1 => k_asm); (case k2 => k_asm); (case k3 => k_asm); (case k4 => k_asm); (case k5 => k_asm); (case k6 => first | exact rfl | assumption); (case k7 => first | exact rfl | assumption); (case kJ => assumption); (case kP => repeat (first | exact Pick.head | apply Pick.tail)); (case h0 => exact RepAt.up (by assumption) (by tb_start)); (case h1 => tb_start); (case h2 => simp only [List.length_append, List.length_cons, List.length_nil] at *; omega); (case kO => k_all); (case kd => (try dsimp only [Around.deeper]); omega); (case ku => (try dsimp only [Around.deeper]); omega)); (intro r' o' tl' h' tk' F' N' hf' ho' hP'); (obtain ⟨e1', hJ'⟩ := hP'); (subst e1'); (try simp only [List.nil_append, List.cons_append, List.append_nil, List.append_assoc] at N'); (try k_sweep); (try dsimp only); (try k_fold)) | with_reducible (k_here; (with_reducible show wpAny _ _ (call (Value.builtin _) [Value.ref _, _]) _ _ _); k_dflt (refine' append_led ?k1 ?k2 ?k3 ?z ?_; (case k1 => k_asm); (case k2 => k_asm); (case k3 => k_upd); (case z => omega)); intro h' F' N'; (try k_sweep)))) | walk1 | ((refine' Hid.use ?hQ ?_); (case hQ => with_reducible assumption); (try dsimp only)) | dsimp only | (leave1; (try dsimp only)) | fail "no step"))
    refine' MDoes.finI hret ?F ?N ?S ?H ⟨rfl, ?J⟩
    case F => assumption
    case N => assumption
    case J => exact Rep.cast (Rep.assoc (by assumption)) (fun _ h => h) (by simp only [List.append_assoc])
    case H => tb_rel
    case S => tb_start
  · intro o hJ ho dp un gd env outer A₀ base h₀ L m mean mg mb s Q E HA hd hu hret
    obtain ⟨B, F, X, N, T, fr, kd⟩ := HA
    refine wpAny_call ?_
    k_dflt ktr_enter
    (repeat' (first | ((with_reducible show wpAny _ _ _ _ _ (Shared.mk _ _ _ (_ + 1 + 1) _)); (refine forgetT ?_); (intro tk9); (try dsimp only)) | ((with_reducible show wpAny _ _ (PySem.exec _ _) _ _ _); ((fail_if_success (refine' hidden_test ?hQ ?_; (case hQ => with_reducible assumption))); (refine' hideQ ?_); (intro Q9 hQ9))) | (k_unfold; (try dsimp only)) | (k_end; wrow_close) | ((with_reducible show wpAny _ _ (call _ _ _) _ _ _); (first | with_reducible (k_here; (with_reducible show wpAny _ _ (call (Value.ref 126) [Value.ref _, _, Value.ref _] _) _ _ _); k_dflt (refine' MDoes.use ?k1 ?k2 ?k3 ?k4 ?k5 ?k6 ?k7 ?kP (ChkEach.use ?h0 ?h1 ?h2 ?h3 ?h4 ?h5 ?h6) ?kJ ?kO ?kd ?ku ?_; (case k1 => k_asm); (case k2 => k_asm); (case k3 => k_asm); (case k4 => k_asm); (case k5 => k_asm); (case k6 => first | exact rfl | assumption); (case k7 => first | exact rfl | assumption); (case kJ => assumption); (case kP => repeat (first | exact Pick.head | apply Pick.tail)); (case h5 => assumption); (case h0 => exact RepAt.up (by assumption) (by tb_start)); (case h1 => tb_start); (case h3 => exact TabIn.up (by assumption) (by tb_start)); (case h6 => k_mem); (case h4 => first | assumption | exact PPaired.mono (fun _ _ h => ExIn.up h (by tb_start)) (by assumption)); (case h2 => first | omega | (simp only [List.length_append, List.length_cons, List.length_nil] at *; omega)); (case kO => k_all); (case kd => (try dsimp only [Around.deeper]); omega); (case ku => (try dsimp only [Around.deeper]); omega)); (intro r' o' tl' h' tk' F' N' hf' ho' hP'); (obtain ⟨e1', hJ'⟩ := hP'); (subst e1'); (try simp only [List.nil_append, List.cons_append, List.append_nil, List.append_assoc] at N'); (try k_sweep); (try dsimp only); (try k_fold)) | with_reducible (k_here; (with_reducible show wpAny _ _ (call (Value.ref 119) [Value.ref _, _, _] _) _ _ _); k_dflt (refine' MDoes.use ?k1 ?k2 ?k3 ?k4 ?k5 ?k6 ?k7 ?kP (ChkE.use ?h0 ?h1 ?h2 ?h3 ?h4 ?h5) ?kJ ?kO ?kd ?ku ?_; (case k1 => k_asm); (case k2 => k_asm); (case k3 => k_asm); (case k4 => k_asm); (case k5 => k_asm); (case k6 => first | exact rfl | assumption); (case k7 => first | exact rfl | assumption); (case kJ => assumption); (case kP => repeat (first | exact Pick.head | apply Pick.tail)); (case h5 => assumption); (case h0 => exact RepAt.up (by assumption) (by tb_start)); (case h1 => tb_start); (case h3 => exact TabIn.up (by assumption) (by tb_start)); (case h4 => first | assumption | exact ExIn.up (by assumption) (by tb_start)); (case h2 => first | omega | (simp only [List.length_append, List.length_cons, List.length_nil] at *; omega)); (case kO => k_all); (case kd => (try dsimp only [Around.deeper]); omega); (case ku => (try dsimp only [Around.deeper]); omega)); (intro r' o' tl' h' tk' F' N' hf' ho' hP'); (obtain ⟨e1', hJ'⟩ := hP'); (subst e1'); (try simp only [List.nil_append, List.cons_append, List.append_nil, List.append_assoc] at N'); (try k_sweep); (try dsimp only); (try k_fold)) | with_reducible (k_here; (with_reducible show wpAny _ _ (call (Value.ref 70) [_, Value.str _ _] _) _ _ _); k_dflt (refine' PDoes.use ?k1 ?k2 ?k3 ?k4 ?k5 ?k6 ?k7 (find ?h0 ?h1) ?kd ?ku ?_; (case k1 => k_asm); (case k2 => k_asm); (case k3 => k_asm); (case k4 => k_asm); (case k5 => k_asm); (case k6 => first | exact rfl | assumption); (case k7 => first | exact rfl | assumption); (case h0 => exact TabIn.up (by assumption) (by tb_start)); (case h1 => assumption); (case kd => (try dsimp only [Around.deeper]); omega); (case ku => (try dsimp only [Around.deeper]); omega)); (intro r' tl' h' tk' F' N' hf' hP'); (obtain ⟨e1', hE'⟩ := hP'); (subst e1'); (simp only [List.append_nil] at N'); (try k_sweep); (try dsimp only); k_dflt ((rcases hE' with ⟨hx', hr'⟩ | ⟨d', k', t0', i', t1', u', hr', hm', hx'⟩ | ⟨d', k', t0', i', t1', u', hr', hm', hx'⟩ | ⟨d', k', t0', i', t1', e', k2', t2', b1', b2', hr', hm', hm2', hx'⟩ | ⟨d', k', t0', i', t1', e', k2', t2', b1', b2', hr', hm', hm2', hx'⟩) <;> (subst hr'; (try k_fold)))) | with_reducible (k_here; (with_reducible show wpAny _ _ (call (Value.ref 177) [Value.ref _, _, Value.int _ _, Value.str _ _, Value.bool _, Value.bool _] _) _ _ _); k_dflt (refine' MDoes.use ?k1 ?k2 ?k3 ?k4 ?k5 ?k6 ?k7 ?kP (ctn ?h0 ?h1 ?h2 ?h3 ?h4) ?kJ ?kO ?kd ?ku ?_; (case k1 => k_asm); (case k2 => k_asm); (case k3 => k_asm); (case k4 => k_asm); (case k5 => k_asm); (case k6 => first | exact rfl | assumption); (case k7 => first | exact rfl | assumption); (case kJ => assumption); (case kP => repeat (first | exact Pick.head | apply Pick.tail)); (case h0 => exact RepAt.up (by assumption) (by tb_start)); (case h1 => tb_start); (case h2 => first | omega | (simp only [List.length_append, List.length_cons, List.length_nil] at *; omega)); (case h3 => exact TabIn.up (by assumption) (by tb_start)); (case h4 => assumption); (case kO => k_all); (case kd => (try dsimp only [Around.deeper]); omega); (case ku => (try dsimp only [Around.deeper]); omega)); (intro r' o' tl' h' tk' F' N' hf' ho' hP'); (obtain ⟨e1', hJ'⟩ := hP'); (subst e1'); (try simp only [List.nil_append, List.cons_append, List.append_nil, List.append_assoc] at N'); (try k_sweep); (try dsimp only); (try k_fold)) | with_reducible (k_here; (with_reducible show wpAny _ _ (call (Value.ref 35) [Value.ref _, Value.str _ _, Value.int _ _, Value.str _ _] _) _ _ _); k_dflt (refine' MDoes.use ?k1 ?k2 ?k3 ?k4 ?k5 ?k6 ?k7 ?kP (add ?h0 ?h1 ?h2) ?kJ ?kO ?kd ?ku ?_; (case k1 => k_asm); (case k2 => k_asm); (case k3 => k_asm); (case k4 => k_asm); (case k5 => k_asm); (case k6 => first | exact rfl | assumption); (case k7 => first | exact rfl | assumption); (case kJ => assumption); (case kP => repeat (first | exact Pick.head | apply Pick.tail)); (case h0 => exact RepAt.up (by assumption) (by tb_start)); (case h1 => tb_start); (case h2 => simp only [List.length_append, List.length_cons, List.length_nil] at *; omega); (case kO => k_all); (case kd => (try dsimp only [Around.deeper]); omega); (case ku => (try dsimp only [Around.deeper]); omega)); (intro r' o' tl' h' tk' F' N' hf' ho' hP'); (obtain ⟨e1', hJ'⟩ := hP'); (subst e1'); (try simp only [List.nil_append, List.cons_append, List.append_nil, List.append_assoc] at N'); (try k_sweep); (try dsimp only); (try k_fold)) | with_reducible (k_here; (with_reducible show wpAny _ _ (call (Value.builtin _) [Value.ref _, _]) _ _ _); k_dflt (refine' append_led ?k1 ?k2 ?k3 ?z ?_; (case k1 => k_asm); (case k2 => k_asm); (case k3 => k_upd); (case z => omega)); intro h' F' N'; (try k_sweep)))) | walk1 | ((refine' Hid.use ?hQ ?_); (case hQ => with_reducible assumption); (try dsimp only)) | dsimp only | (leave1; (try dsimp only)) | fail "no step"))
    refine' MDoes.finI hret ?F ?N ?S ?H ⟨rfl, ?J⟩
    case F => assumption
    case N => assumption
    case J => exact Rep.cast (by assumption) (fun _ h => h) (by simp only [List.append_assoc])
    case H => tb_rel
    case S => tb_start
open PySem PySem.W PySem.Calls PyProof.Rows PySem.Spec
theorem frag_on17 : (hdS.heap_1 = hdS.heap_1 ∧ PySem.Challenge.rw_on0122_01 = PySem.Challenge.rw_on0122_01) := by
  k_fill
  exact ⟨rfl, rfl⟩

set_option maxHeartbeats 8000000 in
theorem chkSet {w : World} {r l : Addr} {rest S : Led} {old : Rws} {tv v : Value} {rows : Bool → Rws} {b : Bool} (hR : RepAt r l rest) (hS : ∀ p ∈ S, p ∈ rest) (hlen : old.length + (rows b).length ≤ 90000) (hT : TabIn w rest tv) (hE : SetIn rest v rows) :
    MDoes w 191 6 [.ref r, tv, v, .bool b] l rest (Rep S old) (fun res o' tl => res = .none ∧ Rep (S ++ tl) (old ++ rows b) o') := by
  obtain ⟨a, n, q0, i, q1, b0, nb, q2, i2, q3, x, q4, e, re, rfl, hm, hm2, hx, hE, rfl⟩ := hE
  have hc1 : ChkE w 1 5 := chkE1
  have htg := tgRows_le (i := i2) (x := x)
  rw [List.length_append] at hlen
  intro o hJ ho dp un gd env outer A₀ base h₀ L m mean mg mb s Q E HA hd hu hret
  obtain ⟨B, F, X, N, T, fr, kd⟩ := HA
  refine wpAny_call ?_
  k_dflt ktr_enter
  (repeat' (first | ((with_reducible show wpAny _ _ _ _ _ (Shared.mk _ _ _ (_ + 1 + 1) _)); (refine forgetT ?_); (intro tk9); (try dsimp only)) | ((with_reducible show wpAny _ _ (PySem.exec _ _) _ _ _); ((fail_if_success (refine' hidden_test ?hQ ?_; (case hQ => with_reducible assumption))); (refine' hideQ ?_); (intro Q9 hQ9))) | (k_unfold; (try dsimp only)) | (k_end; wrow_close) | ((with_reducible show wpAny _ _ (call _ _ _) _ _ _); (first | with_reducible (k_here; (with_reducible show wpAny _ _ (call (Value.ref 205) [Value.ref _, _, _, Value.bool _] _) _ _ _); k_dflt (refine' MDoes.use ?k1 ?k2 ?k3 ?k4 ?k5 ?k6 ?k7 ?kP (ChkC.use ?h0 ?h1 ?h2 ?h3 ?h4 ?h5) ?kJ ?kO ?kd ?ku ?_; (case k1 => k_asm); (case k2 => k_asm); (case k3 => k_asm); (case k4 => k_asm); (case k5 => k_asm); (case k6 => first | exact rfl | assumption); (case k7 => first | exact rfl | assumption); (case kJ => assumption); (case kP => repeat (first | exact Pick.head | apply Pick.tail)); (case h5 => assumption); (case h0 => exact RepAt.up (by assumption) (by tb_start)); (case h1 => tb_start); (case h3 => exact TabIn.up (by assumption) (by tb_start)); (case h4 => first | assumption | exact CaseIn.up (by assumption) (by tb_start)); (case h2 => first | omega | (simp only [List.length_append, List.length_cons, List.length_nil] at *; omega)); (case kO => k_all); (case kd => (try dsimp only [Around.deeper]); omega); (case ku => (try dsimp only [Around.deeper]); omega)); (intro r' o' tl' h' tk' F' N' hf' ho' hP'); (obtain ⟨e1', hJ'⟩ := hP'); (subst e1'); (try simp only [List.nil_append, List.cons_append, List.append_nil, List.append_assoc] at N'); (try k_sweep); (try dsimp only); (try k_fold)) | with_reducible (k_here; (with_reducible show wpAny _ _ (call (Value.ref 191) [Value.ref _, _, _, Value.bool _] _) _ _ _); k_dflt (refine' MDoes.use ?k1 ?k2 ?k3 ?k4 ?k5 ?k6 ?k7 ?kP (ChkS.use ?h0 ?h1 ?h2 ?h3 ?h4 ?h5) ?kJ ?kO ?kd ?ku ?_; (case k1 => k_asm); (case k2 => k_asm); (case k3 => k_asm); (case k4 => k_asm); (case k5 => k_asm); (case k6 => first | exact rfl | assumption); (case k7 => first | exact rfl | assumption); (case kJ => assumption); (case kP => repeat (first | exact Pick.head | apply Pick.tail)); (case h5 => assumption); (case h0 => exact RepAt.up (by assumption) (by tb_start)); (case h1 => tb_start); (case h3 => exact TabIn.up (by assumption) (by tb_start)); (case h4 => first | assumption | exact StIn.up (by assumption) (by tb_start)); (case h2 => first | omega | (simp only [List.length_append, List.length_cons, List.length_nil] at *; omega)); (case kO => k_all); (case kd => (try dsimp only [Around.deeper]); omega); (case ku => (try dsimp only [Around.deeper]); omega)); (intro r' o' tl' h' tk' F' N' hf' ho' hP'); (obtain ⟨e1', hJ'⟩ := hP'); (subst e1'); (try simp only [List.nil_append, List.cons_append, List.append_nil, List.append_assoc] at N'); (try k_sweep); (try dsimp only); (try k_fold)) | with_reducible (k_here; (with_reducible show wpAny _ _ (call (Value.ref 126) [Value.ref _, _, Value.ref _] _) _ _ _); k_dflt (refine' MDoes.use ?k1 ?k2 ?k3 ?k4 ?k5 ?k6 ?k7 ?kP (ChkEach.use ?h0 ?h1 ?h2 ?h3 ?h4 ?h5 ?h6) ?kJ ?kO ?kd ?ku ?_; (case k1 => k_asm); (case k2 => k_asm); (case k3 => k_asm); (case k4 => k_asm); (case k5 => k_asm); (case k6 => first | exact rfl | assumption); (case k7 => first | exact rfl | assumption); (case kJ => assumption); (case kP => repeat (first | exact Pick.head | apply Pick.tail)); (case h5 => assumption); (case h0 => exact RepAt.up (by assumption) (by tb_start)); (case h1 => tb_start); (case h3 => exact TabIn.up (by assumption) (by tb_start)); (case h6 => k_mem); (case h4 => first | assumption | exact PPaired.mono (fun _ _ h => ExIn.up h (by tb_start)) (by assumption)); (case h2 => first | omega | (simp only [List.length_append, List.length_cons, List.length_nil] at *; omega)); (case kO => k_all); (case kd => (try dsimp only [Around.deeper]); omega); (case ku => (try dsimp only [Around.deeper]); omega)); (intro r' o' tl' h' tk' F' N' hf' ho' hP'); (obtain ⟨e1', hJ'⟩ := hP'); (subst e1'); (try simp only [List.nil_append, List.cons_append, List.append_nil, List.append_assoc] at N'); (try k_sweep); (try dsimp only); (try k_fold)) | with_reducible (k_here; (with_reducible show wpAny _ _ (call (Value.ref 119) [Value.ref _, _, _] _) _ _ _); k_dflt (refine' MDoes.use ?k1 ?k2 ?k3 ?k4 ?k5 ?k6 ?k7 ?kP (ChkE.use ?h0 ?h1 ?h2 ?h3 ?h4 ?h5) ?kJ ?kO ?kd ?ku ?_; (case k1 => k_asm); (case k2 => k_asm); (case k3 => k_asm); (case k4 => k_asm); (case k5 => k_asm); (case k6 => first | exact rfl | assumption); (case k7 => first | exact rfl | assumption); (case kJ => assumption); (case kP => repeat (first | exact Pick.head | apply Pick.tail)); (case h5 => assumption); (case h0 => exact RepAt.up (by assumption) (by tb_start)); (case h1 => tb_start); (case h3 => exact TabIn.up (by assumption) (by tb_start)); (case h4 => first | assumption | exact ExIn.up (by assumption) (by tb_start)); (case h2 => first | omega | (simp only [List.length_append, List.length_cons, List.length_nil] at *; omega)); (case kO => k_all); (case kd => (try dsimp only [Around.deeper]); omega); (case ku => (try dsimp only [Around.deeper]); omega)); (intro r' o' tl' h' tk' F' N' hf' ho' hP'); (obtain ⟨e1', hJ'⟩ := hP'); (subst e1'); (try simp only [List.nil_append, List.cons_append, List.append_nil, List.append_assoc] at N'); (try k_sweep); (try dsimp only); (try k_fold)) | with_reducible (k_here; (with_reducible show wpAny _ _ (call (Value.ref 169) [Value.ref _, _, Value.ref _, Value.bool _] _) _ _ _); k_dflt (refine' MDoes.use ?k1 ?k2 ?k3 ?k4 ?k5 ?k6 ?k7 ?kP (ct ?h0 ?h1 ?h2 ?h3 ?h4 ?h5) ?kJ ?kO ?kd ?ku ?_; (case k1 => k_asm); (case k2 => k_asm); (case k3 => k_asm); (case k4 => k_asm); (case k5 => k_asm); (case k6 => first | exact rfl | assumption); (case k7 => first | exact rfl | assumption); (case kJ => assumption); (case kP => repeat (first | exact Pick.head | apply Pick.tail)); (case h0 => exact RepAt.up (by assumption) (by tb_start)); (case h1 => tb_start); (case h2 => first | omega | (simp only [List.length_append, List.length_cons, List.length_nil] at *; omega)); (case h3 => exact TabIn.up (by assumption) (by tb_start)); (case h5 => k_mem); (case h4 => assumption); (case kO => k_all); (case kd => (try dsimp only [Around.deeper]); omega); (case ku => (try dsimp only [Around.deeper]); omega)); (intro r' o' tl' h' tk' F' N' hf' ho' hP'); (obtain ⟨e1', hJ'⟩ := hP'); (subst e1'); (try simp only [List.nil_append, List.cons_append, List.append_nil, List.append_assoc] at N'); (try k_sweep); (try dsimp only); (try k_fold)) | with_reducible (k_here; (with_reducible show wpAny _ _ (call (Value.ref 35) [Value.ref _, Value.str _ _, Value.int _ _, Value.str _ _] _) _ _ _); k_dflt (refine' MDoes.use ?k1 ?k2 ?k3 ?k4 ?k5 ?k6 ?k7 ?kP (add ?h0 ?h1 ?h2) ?kJ ?kO ?kd ?ku ?_; (case k1 => k_asm); (case k2 => k_asm); (case k3 => k_asm); (case k4 => k_asm); (case k5 => k_asm); (case k6 => first | exact rfl | assumption); (case k7 => first | exact rfl | assumption); (case kJ => assumption); (case kP => repeat (first | exact Pick.head | apply Pick.tail)); (case h0 => exact RepAt.up (by assumption) (by tb_start)); (case h1 => tb_start); (case h2 => simp only [List.length_append, List.length_cons, List.length_nil] at *; omega); (case kO => k_all); (case kd => (try dsimp only [Around.deeper]); omega); (case ku => (try dsimp only [Around.deeper]); omega)); (intro r' o' tl' h' tk' F' N' hf' ho' hP'); (obtain ⟨e1', hJ'⟩ := hP'); (subst e1'); (try simp only [List.nil_append, List.cons_append, List.append_nil, List.append_assoc] at N'); (try k_sweep); (try dsimp only); (try k_fold)) | with_reducible (k_here; (with_reducible show wpAny _ _ (call (Value.builtin _) [Value.ref _, _]) _ _ _); k_dflt (refine' append_led ?k1 ?k2 ?k3 ?z ?_; (case k1 => k_asm); (case k2 => k_asm); (case k3 => k_upd); (case z => omega)); intro h' F' N'; (try k_sweep)))) | walk1 | ((refine' Hid.use ?hQ ?_); (case hQ => with_reducible assumption); (try dsimp only)) | dsimp only | (leave1; (try dsimp only)) | fail "no step"))
  · refine' MDoes.finI hret ?F ?N ?S ?H ⟨rfl, ?J⟩
    case F => assumption
    case N => assumption
    case J => exact Rep.cast (Rep.assoc (by assumption)) (fun _ h => h) (by simp only [List.append_assoc])
    case H => tb_rel
    case S => tb_start
  · refine' MDoes.finI hret ?F ?N ?S ?H ⟨rfl, ?J⟩
    case F => assumption
    case N => assumption
    case J => exact Rep.cast (Rep.assoc (by assumption)) (fun _ h => h) (by simp only [List.append_assoc])
    case H => tb_rel
    case S => tb_start

theorem chkS0 {w : World} : ChkS w 0 6 := fun r l rest S old tv v rows b h0 h1 h2 h3 h4 => chkSet h0 h1 h2 h3 h4

set_option maxHeartbeats 8000000 in
theorem chkSS {w : World} {n c : Nat} (hc : 6 ≤ c) (hS0 : ChkS w n c) (hC0 : ChkC w n c) : ChkS w (n + 1) (c + 1) := by
  intro r l rest S old tv v rows b hR hS hlen hT hE
  have hc1 : ChkE w 1 5 := chkE1
  rcases hE with hE | ⟨rfl, rfl⟩ | ⟨a, n1, q0, i, q1, e, re, st, rs, rfl, hm, hE1, hE2, rfl⟩ | hE
  · exact (chkSet hR hS hlen hT hE).weak (by omega) fun _ _ _ x => x
  · intro o hJ ho dp un gd env outer A₀ base h₀ L m mean mg mb s Q E HA hd hu hret
    obtain ⟨B, F, X, N, T, fr, kd⟩ := HA
    refine wpAny_call ?_
    k_dflt ktr_enter
    (repeat' (first | ((with_reducible show wpAny _ _ _ _ _ (Shared.mk _ _ _ (_ + 1 + 1) _)); (refine forgetT ?_); (intro tk9); (try dsimp only)) | ((with_reducible show wpAny _ _ (PySem.exec _ _) _ _ _); ((fail_if_success (refine' hidden_test ?hQ ?_; (case hQ => with_reducible assumption))); (refine' hideQ ?_); (intro Q9 hQ9))) | (k_unfold; (try dsimp only)) | (k_end; wrow_close) | ((with_reducible show wpAny _ _ (call _ _ _) _ _ _); (first | with_reducible (k_here; (with_reducible show wpAny _ _ (call (Value.ref 205) [Value.ref _, _, _, Value.bool _] _) _ _ _); k_dflt (refine' MDoes.use ?k1 ?k2 ?k3 ?k4 ?k5 ?k6 ?k7 ?kP (ChkC.use ?h0 ?h1 ?h2 ?h3 ?h4 ?h5) ?kJ ?kO ?kd ?ku ?_; (case k1 => k_asm); (case k2 => k_asm); (case k3 => k_asm); (case k4 => k_asm); (case k5 => k_asm); (case k6 => first | exact rfl | assumption); (case k7 => first | exact rfl | assumption); (case kJ => assumption); (case kP => repeat (first | exact Pick.head | apply Pick.tail)); (case h5 => assumption); (case h0 => exact RepAt.up (by assumption) (by tb_start)); (case h1 => tb_start); (case h3 => exact TabIn.up (by assumption) (by tb_start)); (case h4 => first | assumption | exact CaseIn.up (by assumption) (by tb_start)); (case h2 => first | omega | (simp only [List.length_append, List.length_cons, List.length_nil] at *; omega)); (case kO => k_all); (case kd => (try dsimp only [Around.deeper]); omega); (case ku => (try dsimp only [Around.deeper]); omega)); (intro r' o' tl' h' tk' F' N' hf' ho' hP'); (obtain ⟨e1', hJ'⟩ := hP'); (subst e1'); (try simp only [List.nil_append, List.cons_append, List.append_nil, List.append_assoc] at N'); (try k_sweep); (try dsimp only); (try k_fold)) | with_reducible (k_here; (with_reducible show wpAny _ _ (call (Value.ref 191) [Value.ref _, _, _, Value.bool _] _) _ _ _); k_dflt (refine' MDoes.use ?k1 ?k2 ?k3 ?k4 ?k5 ?k6 ?k7 ?kP (ChkS.use ?h0 ?h1 ?h2 ?h3 ?h4 ?h5) ?kJ ?kO ?kd ?ku ?_; (case k1 => k_asm); (case k2 => k_asm); (case k3 => k_asm); (case k4 => k_asm); (case k5 => k_asm); (case k6 => first | exact rfl | assumption); (case k7 => first | exact rfl | assumption); (case kJ => assumption); (case kP => repeat (first | exact Pick.head | apply Pick.tail)); (case h5 => assumption); (case h0 => exact RepAt.up (by assumption) (by tb_start)); (case h1 => tb_start); (case h3 => exact TabIn.up (by assumption) (by tb_start)); (case h4 => first | assumption | exact StIn.up (by assumption) (by tb_start)); (case h2 => first | omega | (simp only [List.length_append, List.length_cons, List.length_nil] at *; omega)); (case kO => k_all); (case kd => (try dsimp only [Around.deeper]); omega); (case ku => (try dsimp only [Around.deeper]); omega)); (intro r' o' tl' h' tk' F' N' hf' ho' hP'); (obtain ⟨e1', hJ'⟩ := hP'); (subst e1'); (try simp only [List.nil_append, List.cons_append, List.append_nil, List.append_assoc] at N'); (try k_sweep); (try dsimp only); (try k_fold)) | with_reducible (k_here; (with_reducible show wpAny _ _ (call (Value.ref 126) [Value.ref _, _, Value.ref _] _) _ _ _); k_dflt (refine' MDoes.use ?k1 ?k2 ?k3 ?k4 ?k5 ?k6 ?k7 ?kP (ChkEach.use ?h0 ?h1 ?h2 ?h3 ?h4 ?h5 ?h6) ?kJ ?kO ?kd ?ku ?_; (case k1 => k_asm); (case k2 => k_asm); (case k3 => k_asm); (case k4 => k_asm); (case k5 => k_asm); (case k6 => first | exact rfl | assumption); (case k7 => first | exact rfl | assumption); (case kJ => assumption); (case kP => repeat (first | exact Pick.head | apply Pick.tail)); (case h5 => assumption); (case h0 => exact RepAt.up (by assumption) (by tb_start)); (case h1 => tb_start); (case h3 => exact TabIn.up (by assumption) (by tb_start)); (case h6 => k_mem); (case h4 => first | assumption | exact PPaired.mono (fun _ _ h => ExIn.up h (by tb_start)) (by assumption)); (case h2 => first | omega | (simp only [List.length_append, List.length_cons, List.length_nil] at *; omega)); (case kO => k_all); (case kd => (try dsimp only [Around.deeper]); omega); (case ku => (try dsimp only [Around.deeper]); omega)); (intro r' o' tl' h' tk' F' N' hf' ho' hP'); (obtain ⟨e1', hJ'⟩ := hP'); (subst e1'); (try simp only [List.nil_append, List.cons_append, List.append_nil, List.append_assoc] at N'); (try k_sweep); (try dsimp only); (try k_fold)) | with_reducible (k_here; (with_reducible show wpAny _ _ (call (Value.ref 119) [Value.ref _, _, _] _) _ _ _); k_dflt (refine' MDoes.use ?k1 ?k2 ?k3 ?k4 ?k5 ?k6 ?k7 ?kP (ChkE.use ?h0 ?h1 ?h2 ?h3 ?h4 ?h5) ?kJ ?kO ?kd ?ku ?_; (case k1 => k_asm); (case k2 => k_asm); (case k3 => k_asm); (case k4 => k_asm); (case k5 => k_asm); (case k6 => first | exact rfl | assumption); (case k7 => first | exact rfl | assumption); (case kJ => assumption); (case kP => repeat (first | exact Pick.head | apply Pick.tail)); (case h5 => assumption); (case h0 => exact RepAt.up (by assumption) (by tb_start)); (case h1 => tb_start); (case h3 => exact TabIn.up (by assumption) (by tb_start)); (case h4 => first | assumption | exact ExIn.up (by assumption) (by tb_start)); (case h2 => first | omega | (simp only [List.length_append, List.length_cons, List.length_nil] at *; omega)); (case kO => k_all); (case kd => (try dsimp only [Around.deeper]); omega); (case ku => (try dsimp only [Around.deeper]); omega)); (intro r' o' tl' h' tk' F' N' hf' ho' hP'); (obtain ⟨e1', hJ'⟩ := hP'); (subst e1'); (try simp only [List.nil_append, List.cons_append, List.append_nil, List.append_assoc] at N'); (try k_sweep); (try dsimp only); (try k_fold)) | with_reducible (k_here; (with_reducible show wpAny _ _ (call (Value.ref 169) [Value.ref _, _, Value.ref _, Value.bool _] _) _ _ _); k_dflt (refine' MDoes.use ?k1 ?k2 ?k3 ?k4 ?k5 ?k6 ?k7 ?kP (ct ?h0 ?h1 ?h2 ?h3 ?h4 ?h5) ?kJ ?kO ?kd ?ku ?_; (case k1 => k_asm); (case k2 => k_asm); (case k3 => k_asm); (case k4 => k_asm); (case k5 => k_asm); (case k6 => first | exact rfl | assumption); (case k7 => first | exact rfl | assumption); (case kJ => assumption); (case kP => repeat (first | exact Pick.head | apply Pick.tail)); (case h0 => exact RepAt.up (by assumption) (by tb_start)); (case h1 => tb_start); (case h2 => first | omega | (simp only [List.length_append, List.length_cons, List.length_nil] at *; omega)); (case h3 => exact TabIn.up (by assumption) (by tb_start)); (case h5 => k_mem); (case h4 => assumption); (case kO => k_all); (case kd => (try dsimp only [Around.deeper]); omega); (case ku => (try dsimp only [Around.deeper]); omega)); (intro r' o' tl' h' tk' F' N' hf' ho' hP'); (obtain ⟨e1', hJ'⟩ := hP'); (subst e1'); (try simp only [List.nil_append, List.cons_append, List.append_nil, List.append_assoc] at N'); (try k_sweep); (try dsimp only); (try k_fold)) | with_reducible (k_here; (with_reducible show wpAny _ _ (call (Value.ref 35) [Value.ref _, Value.str _ _, Value.int _ _, Value.str _ _] _) _ _ _); k_dflt (refine' MDoes.use ?k1 ?k2 ?k3 ?k4 ?k5 ?k6 ?k7 ?kP (add ?h0 ?h1 ?h2) ?kJ ?kO ?kd ?ku ?_; (case k1 => k_asm); (case k2 => k_asm); (case k3 => k_asm); (case k4 => k_asm); (case k5 => k_asm); (case k6 => first | exact rfl | assumption); (case k7 => first | exact rfl | assumption); (case kJ => assumption); (case kP => repeat (first | exact Pick.head | apply Pick.tail)); (case h0 => exact RepAt.up (by assumption) (by tb_start)); (case h1 => tb_start); (case h2 => simp only [List.length_append, List.length_cons, List.length_nil] at *; omega); (case kO => k_all); (case kd => (try dsimp only [Around.deeper]); omega); (case ku => (try dsimp only [Around.deeper]); omega)); (intro r' o' tl' h' tk' F' N' hf' ho' hP'); (obtain ⟨e1', hJ'⟩ := hP'); (subst e1'); (try simp only [List.nil_append, List.cons_append, List.append_nil, List.append_assoc] at N'); (try k_sweep); (try dsimp only); (try k_fold)) | with_reducible (k_here; (with_reducible show wpAny _ _ (call (Value.builtin _) [Value.ref _, _]) _ _ _); k_dflt (refine' append_led ?k1 ?k2 ?k3 ?z ?_; (case k1 => k_asm); (case k2 => k_asm); (case k3 => k_upd); (case z => omega)); intro h' F' N'; (try k_sweep)))) | walk1 | ((refine' Hid.use ?hQ ?_); (case hQ => with_reducible assumption); (try dsimp only)) | dsimp only | (leave1; (try dsimp only)) | fail "no step"))
    refine' MDoes.fin hret ?F ?N o [] ?S fresh_nil ⟨rfl, ?J⟩
    case F => assumption
    case N => assumption
    case S => (rw [List.append_nil]; tb_start)
    case J => exact Rep.cast (Rep.nil hJ) (fun _ h => h) (by simp only [List.append_nil])
  · have hR0 := hR
    obtain ⟨dx, h1, t3, v1, h2, t4, v2, h3, t5, n', a1, a2⟩ := hR0
    simp only [List.length_append] at hlen
    intro o hJ ho dp un gd env outer A₀ base h₀ L m mean mg mb s Q E HA hd hu hret
    obtain ⟨B, F, X, N, T, fr, kd⟩ := HA
    refine wpAny_call ?_
    k_dflt ktr_enter
    cases b
    all_goals simp only [Bool.false_eq_true, if_false, if_true, List.length_cons, List.length_nil] at hlen
    all_goals (repeat' (first | ((with_reducible show wpAny _ _ _ _ _ (Shared.mk _ _ _ (_ + 1 + 1) _)); (refine forgetT ?_); (intro tk9); (try dsimp only)) | ((with_reducible show wpAny _ _ (PySem.exec _ _) _ _ _); ((fail_if_success (refine' hidden_test ?hQ ?_; (case hQ => with_reducible assumption))); (refine' hideQ ?_); (intro Q9 hQ9))) | (k_unfold; (try dsimp only)) | (k_end; wrow_close) | ((with_reducible show wpAny _ _ (call _ _ _) _ _ _); (first | with_reducible (k_here; (with_reducible show wpAny _ _ (call (Value.ref 205) [Value.ref _, _, _, Value.bool _] _) _ _ _); k_dflt (refine' MDoes.use ?k1 ?k2 ?k3 ?k4 ?k5 ?k6 ?k7 ?kP (ChkC.use ?h0 ?h1 ?h2 ?h3 ?h4 ?h5) ?kJ ?kO ?kd ?ku ?_; (case k1 => k_asm); (case k2 => k_asm); (case k3 => k_asm); (case k4 => k_asm); (case k5 => k_asm); (case k6 => first | exact rfl | assumption); (case k7 => first | exact rfl | assumption); (case kJ => assumption); (case kP => repeat (first | exact Pick.head | apply Pick.tail)); (case h5 => assumption); (case h0 => exact RepAt.up (by assumption) (by tb_start)); (case h1 => tb_start); (case h3 => exact TabIn.up (by assumption) (by tb_start)); (case h4 => first | assumption | exact CaseIn.up (by assumption) (by tb_start)); (case h2 => first | omega | (simp only [List.length_append, List.length_cons, List.length_nil] at *; omega)); (case kO => k_all); (case kd => (try dsimp only [Around.deeper]); omega); (case ku => (try dsimp only [Around.deeper]); omega)); (intro r' o' tl' h' tk' F' N' hf' ho' hP'); (obtain ⟨e1', hJ'⟩ := hP'); (subst e1'); (try simp only [List.nil_append, List.cons_append, List.append_nil, List.append_assoc] at N'); (try k_sweep); (try dsimp only); (try k_fold)) | with_reducible (k_here; (with_reducible show wpAny _ _ (call (Value.ref 191) [Value.ref _, _, _, Value.bool _] _) _ _ _); k_dflt (refine' MDoes.use ?k1 ?k2 ?k3 ?k4 ?k5 ?k6 ?k7 ?kP (ChkS.use ?h0 ?h1 ?h2 ?h3 ?h4 ?h5) ?kJ ?kO ?kd ?ku ?_; (case k1 => k_asm); (case k2 => k_asm); (case k3 => k_asm); (case k4 => k_asm); (case k5 => k_asm); (case k6 => first | exact rfl | assumption); (case k7 => first | exact rfl | assumption); (case kJ => assumption); (case kP => repeat (first | exact Pick.head | apply Pick.tail)); (case h5 => assumption); (case h0 => exact RepAt.up (by assumption) (by tb_start)); (case h1 => tb_start); (case h3 => exact TabIn.up (by assumption) (by tb_start)); (case h4 => first | assumption | exact StIn.up (by assumption) (by tb_start)); (case h2 => first | omega | (simp only [List.length_append, List.length_cons, List.length_nil] at *; omega)); (case kO => k_all); (case kd => (try dsimp only [Around.deeper]); omega); (case ku => (try dsimp only [Around.deeper]); omega)); (intro r' o' tl' h' tk' F' N' hf' ho' hP'); (obtain ⟨e1', hJ'⟩ := hP'); (subst e1'); (try simp only [List.nil_append, List.cons_append, List.append_nil, List.append_assoc] at N'); (try k_sweep); (try dsimp only); (try k_fold)) | with_reducible (k_here; (with_reducible show wpAny _ _ (call (Value.ref 126) [Value.ref _, _, Value.ref _] _) _ _ _); k_dflt (refine' MDoes.use ?k1 ?k2 ?k3 ?k4 ?k5 ?k6 ?k7 ?kP (ChkEach.use ?h0 ?h1 ?h2 ?h3 ?h4 ?h5 ?h6) ?kJ ?kO ?kd ?ku ?_; (case k1 => k_asm); (case k2 => k_asm); (case k3 => k_asm); (case k4 => k_asm); (case k5 => k_asm); (case k6 => first | exact rfl | assumption); (case k7 => first | exact rfl | assumption); (case kJ => assumption); (case kP => repeat (first | exact Pick.head | apply Pick.tail)); (case h5 => assumption); (case h0 => exact RepAt.up (by assumption) (by tb_start)); (case h1 => tb_start); (case h3 => exact TabIn.up (by assumption) (by tb_start)); (case h6 => k_mem); (case h4 => first | assumption | exact PPaired.mono (fun _ _ h => ExIn.up h (by tb_start)) (by assumption)); (case h2 => first | omega | (simp only [List.length_append, List.length_cons, List.length_nil] at *; omega)); (case kO => k_all); (case kd => (try dsimp only [Around.deeper]); omega); (case ku => (try dsimp only [Around.deeper]); omega)); (intro r' o' tl' h' tk' F' N' hf' ho' hP'); (obtain ⟨e1', hJ'⟩ := hP'); (subst e1'); (try simp only [List.nil_append, List.cons_append, List.append_nil, List.append_assoc] at N'); (try k_sweep); (try dsimp only); (try k_fold)) | with_reducible (k_here; (with_reducible show wpAny _ _ (call (Value.ref 119) [Value.ref _, _, _] _) _ _ _); k_dflt (refine' MDoes.use ?k1 ?k2 ?k3 ?k4 ?k5 ?k6 ?k7 ?kP (ChkE.use ?h0 ?h1 ?h2 ?h3 ?h4 ?h5) ?kJ ?kO ?kd ?ku ?_; (case k1 => k_asm); (case k2 => k_asm); (case k3 => k_asm); (case k4 => k_asm); (case k5 => k_asm); (case k6 => first | exact rfl | assumption); (case k7 => first | exact rfl | assumption); (case kJ => assumption); (case kP => repeat (first | exact Pick.head | apply Pick.tail)); (case h5 => assumption); (case h0 => exact RepAt.up (by assumption) (by tb_start)); (case h1 => tb_start); (case h3 => exact TabIn.up (by assumption) (by tb_start)); (case h4 => first | assumption | exact ExIn.up (by assumption) (by tb_start)); (case h2 => first | omega | (simp only [List.length_append, List.length_cons, List.length_nil] at *; omega)); (case kO => k_all); (case kd => (try dsimp only [Around.deeper]); omega); (case ku => (try dsimp only [Around.deeper]); omega)); (intro r' o' tl' h' tk' F' N' hf' ho' hP'); (obtain ⟨e1', hJ'⟩ := hP'); (subst e1'); (try simp only [List.nil_append, List.cons_append, List.append_nil, List.append_assoc] at N'); (try k_sweep); (try dsimp only); (try k_fold)) | with_reducible (k_here; (with_reducible show wpAny _ _ (call (Value.ref 169) [Value.ref _, _, Value.ref _, Value.bool _] _) _ _ _); k_dflt (refine' MDoes.use ?k1 ?k2 ?k3 ?k4 ?k5 ?k6 ?k7 ?kP (ct ?h0 ?h1 ?h2 ?h3 ?h4 ?h5) ?kJ ?kO ?kd ?ku ?_; (case k1 => k_asm); (case k2 => k_asm); (case k3 => k_asm); (case k4 => k_asm); (case k5 => k_asm); (case k6 => first | exact rfl | assumption); (case k7 => first | exact rfl | assumption); (case kJ => assumption); (case kP => repeat (first | exact Pick.head | apply Pick.tail)); (case h0 => exact RepAt.up (by assumption) (by tb_start)); (case h1 => tb_start); (case h2 => first | omega | (simp only [List.length_append, List.length_cons, List.length_nil] at *; omega)); (case h3 => exact TabIn.up (by assumption) (by tb_start)); (case h5 => k_mem); (case h4 => assumption); (case kO => k_all); (case kd => (try dsimp only [Around.deeper]); omega); (case ku => (try dsimp only [Around.deeper]); omega)); (intro r' o' tl' h' tk' F' N' hf' ho' hP'); (obtain ⟨e1', hJ'⟩ := hP'); (subst e1'); (try simp only [List.nil_append, List.cons_append, List.append_nil, List.append_assoc] at N'); (try k_sweep); (try dsimp only); (try k_fold)) | with_reducible (k_here; (with_reducible show wpAny _ _ (call (Value.ref 35) [Value.ref _, Value.str _ _, Value.int _ _, Value.str _ _] _) _ _ _); k_dflt (refine' MDoes.use ?k1 ?k2 ?k3 ?k4 ?k5 ?k6 ?k7 ?kP (add ?h0 ?h1 ?h2) ?kJ ?kO ?kd ?ku ?_; (case k1 => k_asm); (case k2 => k_asm); (case k3 => k_asm); (case k4 => k_asm); (case k5 => k_asm); (case k6 => first | exact rfl | assumption); (case k7 => first | exact rfl | assumption); (case kJ => assumption); (case kP => repeat (first | exact Pick.head | apply Pick.tail)); (case h0 => exact RepAt.up (by assumption) (by tb_start)); (case h1 => tb_start); (case h2 => simp only [List.length_append, List.length_cons, List.length_nil] at *; omega); (case kO => k_all); (case kd => (try dsimp only [Around.deeper]); omega); (case ku => (try dsimp only [Around.deeper]); omega)); (intro r' o' tl' h' tk' F' N' hf' ho' hP'); (obtain ⟨e1', hJ'⟩ := hP'); (subst e1'); (try simp only [List.nil_append, List.cons_append, List.append_nil, List.append_assoc] at N'); (try k_sweep); (try dsimp only); (try k_fold)) | with_reducible (k_here; (with_reducible show wpAny _ _ (call (Value.builtin _) [Value.ref _, _]) _ _ _); k_dflt (refine' append_led ?k1 ?k2 ?k3 ?z ?_; (case k1 => k_asm); (case k2 => k_asm); (case k3 => k_upd); (case z => omega)); intro h' F' N'; (try k_sweep)))) | walk1 | ((refine' Hid.use ?hQ ?_); (case hQ => with_reducible assumption); (try dsimp only)) | dsimp only | (leave1; (try dsimp only)) | fail "no step"))
    · refine' MDoes.finI hret ?F ?N ?S ?H ⟨rfl, ?J⟩
      case F => assumption
      case N => assumption
      case J => exact Rep.cast (Rep.assoc3 (by assumption)) (fun _ h => h) (by simp only [Bool.false_eq_true, if_false, List.append_assoc])
      case H => tb_rel
      case S => tb_start
    · refine' MDoes.finI hret ?F ?N ?S ?H ⟨rfl, ?J⟩
      case F => assumption
      case N => assumption
      case J => exact Rep.cast (Rep.assoc (by assumption)) (fun _ h => h) (by simp only [if_true, List.nil_append, List.append_assoc])
      case H => tb_rel
      case S => tb_start
  · have hE0 := hE
    obtain ⟨a, n1, q0, i, q1, k1, sb, r0, b1, nb, vs, ds, rfl, hm, _⟩ := hE
    intro o hJ ho dp un gd env outer A₀ base h₀ L m mean mg mb s Q E HA hd hu hret
    obtain ⟨B, F, X, N, T, fr, kd⟩ := HA
    refine wpAny_call ?_
    k_dflt ktr_enter
    (repeat' (first | ((with_reducible show wpAny _ _ _ _ _ (Shared.mk _ _ _ (_ + 1 + 1) _)); (refine forgetT ?_); (intro tk9); (try dsimp only)) | ((with_reducible show wpAny _ _ (PySem.exec _ _) _ _ _); ((fail_if_success (refine' hidden_test ?hQ ?_; (case hQ => with_reducible assumption))); (refine' hideQ ?_); (intro Q9 hQ9))) | (k_unfold; (try dsimp only)) | (k_end; wrow_close) | ((with_reducible show wpAny _ _ (call _ _ _) _ _ _); (first | with_reducible (k_here; (with_reducible show wpAny _ _ (call (Value.ref 205) [Value.ref _, _, _, Value.bool _] _) _ _ _); k_dflt (refine' MDoes.use ?k1 ?k2 ?k3 ?k4 ?k5 ?k6 ?k7 ?kP (ChkC.use ?h0 ?h1 ?h2 ?h3 ?h4 ?h5) ?kJ ?kO ?kd ?ku ?_; (case k1 => k_asm); (case k2 => k_asm); (case k3 => k_asm); (case k4 => k_asm); (case k5 => k_asm); (case k6 => first | exact rfl | assumption); (case k7 => first | exact rfl | assumption); (case kJ => assumption); (case kP => repeat (first | exact Pick.head | apply Pick.tail)); (case h5 => assumption); (case h0 => exact RepAt.up (by assumption) (by tb_start)); (case h1 => tb_start); (case h3 => exact TabIn.up (by assumption) (by tb_start)); (case h4 => first | assumption | exact CaseIn.up (by assumption) (by tb_start)); (case h2 => first | omega | (simp only [List.length_append, List.length_cons, List.length_nil] at *; omega)); (case kO => k_all); (case kd => (try dsimp only [Around.deeper]); omega); (case ku => (try dsimp only [Around.deeper]); omega)); (intro r' o' tl' h' tk' F' N' hf' ho' hP'); (obtain ⟨e1', hJ'⟩ := hP'); (subst e1'); (try simp only [List.nil_append, List.cons_append, List.append_nil, List.append_assoc] at N'); (try k_sweep); (try dsimp only); (try k_fold)) | with_reducible (k_here; (with_reducible show wpAny _ _ (call (Value.ref 191) [Value.ref _, _, _, Value.bool _] _) _ _ _); k_dflt (refine' MDoes.use ?k1 ?k2 ?k3 ?k4 ?k5 ?k6 ?k7 ?kP (ChkS.use ?h0 ?h1 ?h2 ?h3 ?h4 ?h5) ?kJ ?kO ?kd ?ku ?_; (case k1 => k_asm); (case k2 => k_asm); (case k3 => k_asm); (case k4 => k_asm); (case k5 => k_asm); (case k6 => first | exact rfl | assumption); (case k7 => first | exact rfl | assumption); (case kJ => assumption); (case kP => repeat (first | exact Pick.head | apply Pick.tail)); (case h5 => assumption); (case h0 => exact RepAt.up (by assumption) (by tb_start)); (case h1 => tb_start); (case h3 => exact TabIn.up (by assumption) (by tb_start)); (case h4 => first | assumption | exact StIn.up (by assumption) (by tb_start)); (case h2 => first | omega | (simp only [List.length_append, List.length_cons, List.length_nil] at *; omega)); (case kO => k_all); (case kd => (try dsimp only [Around.deeper]); omega); (case ku => (try dsimp only [Around.deeper]); omega)); (intro r' o' tl' h' tk' F' N' hf' ho' hP'); (obtain ⟨e1', hJ'⟩ := hP'); (subst e1'); (try simp only [List.nil_append, List.cons_append, List.append_nil, List.append_assoc] at N'); (try k_sweep); (try dsimp only); (try k_fold)) | with_reducible (k_here; (with_reducible show wpAny _ _ (call (Value.ref 126) [Value.ref _, _, Value.ref _] _) _ _ _); k_dflt (refine' MDoes.use ?k1 ?k2 ?k3 ?k4 ?k5 ?k6 ?k7 ?kP (ChkEach.use ?h0 ?h1 ?h2 ?h3 ?h4 ?h5 ?h6) ?kJ ?kO ?kd ?ku ?_; (case k1 => k_asm); (case k2 => k_asm); (case k3 => k_asm); (case k4 => k_asm); (case k5 => k_asm); (case k6 => first | exact rfl | assumption); (case k7 => first | exact rfl | assumption); (case kJ => assumption); (case kP => repeat (first | exact Pick.head | apply Pick.tail)); (case h5 => assumption); (case h0 => exact RepAt.up (by assumption) (by tb_start)); (case h1 => tb_start); (case h3 => exact TabIn.up (by assumption) (by tb_start)); (case h6 => k_mem); (case h4 => first | assumption | exact PPaired.mono (fun _ _ h => ExIn.up h (by tb_start)) (by assumption)); (case h2 => first | omega | (simp only [List.length_append, List.length_cons, List.length_nil] at *; omega)); (case kO => k_all); (case kd => (try dsimp only [Around.deeper]); omega); (case ku => (try dsimp only [Around.deeper]); omega)); (intro r' o' tl' h' tk' F' N' hf' ho' hP'); (obtain ⟨e1', hJ'⟩ := hP'); (subst e1'); (try simp only [List.nil_append, List.cons_append, List.append_nil, List.append_assoc] at N'); (try k_sweep); (try dsimp only); (try k_fold)) | with_reducible (k_here; (with_reducible show wpAny _ _ (call (Value.ref 119) [Value.ref _, _, _] _) _ _ _); k_dflt (refine' MDoes.use ?k1 ?k2 ?k3 ?k4 ?k5 ?k6 ?k7 ?kP (ChkE.use ?h0 ?h1 ?h2 ?h3 ?h4 ?h5) ?kJ ?kO ?kd ?ku ?_; (case k1 => k_asm); (case k2 => k_asm); (case k3 => k_asm); (case k4 => k_asm); (case k5 => k_asm); (case k6 => first | exact rfl | assumption); (case k7 => first | exact rfl | assumption); (case kJ => assumption); (case kP => repeat (first | exact Pick.head | apply Pick.tail)); (case h5 => assumption); (case h0 => exact RepAt.up (by assumption) (by tb_start)); (case h1 => tb_start); (case h3 => exact TabIn.up (by assumption) (by tb_start)); (case h4 => first | assumption | exact ExIn.up (by assumption) (by tb_start)); (case h2 => first | omega | (simp only [List.length_append, List.length_cons, List.length_nil] at *; omega)); (case kO => k_all); (case kd => (try dsimp only [Around.deeper]); omega); (case ku => (try dsimp only [Around.deeper]); omega)); (intro r' o' tl' h' tk' F' N' hf' ho' hP'); (obtain ⟨e1', hJ'⟩ := hP'); (subst e1'); (try simp only [List.nil_append, List.cons_append, List.append_nil, List.append_assoc] at N'); (try k_sweep); (try dsimp only); (try k_fold)) | with_reducible (k_here; (with_reducible show wpAny _ _ (call (Value.ref 169) [Value.ref _, _, Value.ref _, Value.bool _] _) _ _ _); k_dflt (refine' MDoes.use ?k1 ?k2 ?k3 ?k4 ?k5 ?k6 ?k7 ?kP (ct ?h0 ?h1 ?h2 ?h3 ?h4 ?h5) ?kJ ?kO ?kd ?ku ?_; (case k1 => k_asm); (case k2 => k_asm); (case k3 => k_asm); (case k4 => k_asm); (case k5 => k_asm); (case k6 => first | exact rfl | assumption); (case k7 => first | exact rfl | assumption); (case kJ => assumption); (case kP => repeat (first | exact Pick.head | apply Pick.tail)); (case h0 => exact RepAt.up (by assumption) (by tb_start)); (case h1 => tb_start); (case h2 => first | omega | (simp only [List.length_append, List.length_cons, List.length_nil] at *; omega)); (case h3 => exact TabIn.up (by assumption) (by tb_start)); (case h5 => k_mem); (case h4 => assumption); (case kO => k_all); (case kd => (try dsimp only [Around.deeper]); omega); (case ku => (try dsimp only [Around.deeper]); omega)); (intro r' o' tl' h' tk' F' N' hf' ho' hP'); (obtain ⟨e1', hJ'⟩ := hP'); (subst e1'); (try simp only [List.nil_append, List.cons_append, List.append_nil, List.append_assoc] at N'); (try k_sweep); (try dsimp only); (try k_fold)) | with_reducible (k_here; (with_reducible show wpAny _ _ (call (Value.ref 35) [Value.ref _, Value.str _ _, Value.int _ _, Value.str _ _] _) _ _ _); k_dflt (refine' MDoes.use ?k1 ?k2 ?k3 ?k4 ?k5 ?k6 ?k7 ?kP (add ?h0 ?h1 ?h2) ?kJ ?kO ?kd ?ku ?_; (case k1 => k_asm); (case k2 => k_asm); (case k3 => k_asm); (case k4 => k_asm); (case k5 => k_asm); (case k6 => first | exact rfl | assumption); (case k7 => first | exact rfl | assumption); (case kJ => assumption); (case kP => repeat (first | exact Pick.head | apply Pick.tail)); (case h0 => exact RepAt.up (by assumption) (by tb_start)); (case h1 => tb_start); (case h2 => simp only [List.length_append, List.length_cons, List.length_nil] at *; omega); (case kO => k_all); (case kd => (try dsimp only [Around.deeper]); omega); (case ku => (try dsimp only [Around.deeper]); omega)); (intro r' o' tl' h' tk' F' N' hf' ho' hP'); (obtain ⟨e1', hJ'⟩ := hP'); (subst e1'); (try simp only [List.nil_append, List.cons_append, List.append_nil, List.append_assoc] at N'); (try k_sweep); (try dsimp only); (try k_fold)) | with_reducible (k_here; (with_reducible show wpAny _ _ (call (Value.builtin _) [Value.ref _, _]) _ _ _); k_dflt (refine' append_led ?k1 ?k2 ?k3 ?z ?_; (case k1 => k_asm); (case k2 => k_asm); (case k3 => k_upd); (case z => omega)); intro h' F' N'; (try k_sweep)))) | walk1 | ((refine' Hid.use ?hQ ?_); (case hQ => with_reducible assumption); (try dsimp only)) | dsimp only | (leave1; (try dsimp only)) | fail "no step"))
    · refine' MDoes.finI hret ?F ?N ?S ?H ⟨rfl, ?J⟩
      case F => assumption
      case N => assumption
      case J => exact Rep.cast (by assumption) (fun _ h => h) rfl
      case H => tb_rel
      case S => tb_start
    · refine' MDoes.finI hret ?F ?N ?S ?H ⟨rfl, ?J⟩
      case F => assumption
      case N => assumption
      case J => exact Rep.cast (by assumption) (fun _ h => h) rfl
      case H => tb_rel
      case S => tb_start
open PySem PySem.W PySem.Calls PyProof.Rows PySem.Spec
theorem frag_on18 : (hdS.heap_1 = hdS.heap_1 ∧ PySem.Challenge.rw_on0122_01 = PySem.Challenge.rw_on0122_01) := by
  k_fill
  exact ⟨rfl, rfl⟩

theorem BranchIn.up {led led' : Led} {n : Nat} {v : Value} {d : Bool × (Bool → Rws)} (h : BranchIn led (StIn led n) v d) (hs : ∀ p ∈ led, p ∈ led') : BranchIn led' (StIn led' n) v d := h.mono hs fun _ _ h => h.mono hs
theorem count_take {ds : List (Bool × (Bool → Rws))} {i : Nat} {d : Bool × (Bool → Rws)} (h : ds[i]? = some d) : ((ds.take (i + 1)).filter (·.1)).length = ((ds.take i).filter (·.1)).length + (if d.1 then 1 else 0) := by
  rw [List.take_add_one, h, List.filter_append, List.length_append]
  cases hd : d.1 <;> simp [hd]
theorem paired_map {α β γ : Type} {F : α → β → Prop} {G : α → γ → Prop} (f : β → γ) (h : ∀ a b, F a b → G a (f b)) : ∀ {l₁ : List α} {l₂ : List β}, Paired F l₁ l₂ → Paired G l₁ (l₂.map f)
  | _, _, .nil => .nil
  | _, _, .cons a t => .cons (h _ _ a) (paired_map f h t)

set_option maxHeartbeats 8000000 in
theorem chkC {w : World} {n c : Nat} (hc : 6 ≤ c) (hS0 : ChkS w n c) : ChkC w n (c + 1) := by
  intro r l rest S old tv v rows b hR hS hlen hT hE
  have hc1 : ChkE w 1 5 := chkE1
  have hc2 : ChkEach w 1 6 := chkEach chkE1
  have hR0 := hR
  obtain ⟨dx, h1, t3, v1, h2, t4, v2, h3, t5, n', a1, a2⟩ := hR0
  obtain ⟨a, n1, q0, i, q1, k1, sb, r0, b1, nb, vs, ds, rfl, hm, hE0, hb, hv4, hp, rfl⟩ := hE
  simp only [caseRows, List.length_append] at hlen
  have hlenD : old.length + r0.length + ((ds.map fun d => d.2 b).flatten).length ≤ 90000 := by omega
  intro o hJ ho dp un gd env outer A₀ base h₀ L m mean mg mb s Q E HA hd hu hret
  obtain ⟨B, F, X, N, T, fr, kd⟩ := HA
  refine wpAny_call ?_
  k_dflt ktr_enter
  repeat' (first | (fail_if_success (with_reducible show wpAny _ _ (exec (Stmt.For _ _ _ _ _) _) _ _ _)); first | ((with_reducible show wpAny _ _ _ _ _ (Shared.mk _ _ _ (_ + 1 + 1) _)); (refine forgetT ?_); (intro tk9); (try dsimp only)) | ((with_reducible show wpAny _ _ (PySem.exec _ _) _ _ _); ((fail_if_success (refine' hidden_test ?hQ ?_; (case hQ => with_reducible assumption))); (refine' hideQ ?_); (intro Q9 hQ9))) | (k_unfold; (try dsimp only)) | (k_end; wrow_close) | ((with_reducible show wpAny _ _ (call _ _ _) _ _ _); (first | with_reducible (k_here; (with_reducible show wpAny _ _ (call (Value.ref 191) [Value.ref _, _, _, Value.bool _] _) _ _ _); k_dflt (refine' MDoes.use ?k1 ?k2 ?k3 ?k4 ?k5 ?k6 ?k7 ?kP (ChkS.use ?h0 ?h1 ?h2 ?h3 ?h4 ?h5) ?kJ ?kO ?kd ?ku ?_; (case k1 => k_asm); (case k2 => k_asm); (case k3 => k_asm); (case k4 => k_asm); (case k5 => k_asm); (case k6 => first | exact rfl | assumption); (case k7 => first | exact rfl | assumption); (case kJ => assumption); (case kP => repeat (first | exact Pick.head | apply Pick.tail)); (case h5 => assumption); (case h0 => exact RepAt.up (by assumption) (by tb_start)); (case h1 => tb_start); (case h3 => exact TabIn.up (by assumption) (by tb_start)); (case h4 => first | assumption | exact StIn.up (by assumption) (by tb_start)); (case h2 => first | omega | (simp only [List.length_append, List.length_cons, List.length_nil] at *; omega)); (case kO => k_all); (case kd => (try dsimp only [Around.deeper]); omega); (case ku => (try dsimp only [Around.deeper]); omega)); (intro r' o' tl' h' tk' F' N' hf' ho' hP'); (obtain ⟨e1', hJ'⟩ := hP'); (subst e1'); (try simp only [List.nil_append, List.cons_append, List.append_nil, List.append_assoc] at N'); (try k_sweep); (try dsimp only); (try k_fold)) | with_reducible (k_here; (with_reducible show wpAny _ _ (call (Value.ref 126) [Value.ref _, _, Value.ref _] _) _ _ _); k_dflt (refine' MDoes.use ?k1 ?k2 ?k3 ?k4 ?k5 ?k6 ?k7 ?kP (ChkEach.use ?h0 ?h1 ?h2 ?h3 ?h4 ?h5 ?h6) ?kJ ?kO ?kd ?ku ?_; (case k1 => k_asm); (case k2 => k_asm); (case k3 => k_asm); (case k4 => k_asm); (case k5 => k_asm); (case k6 => first | exact rfl | assumption); (case k7 => first | exact rfl | assumption); (case kJ => assumption); (case kP => repeat (first | exact Pick.head | apply Pick.tail)); (case h5 => assumption); (case h0 => exact RepAt.up (by assumption) (by tb_start)); (case h1 => tb_start); (case h3 => exact TabIn.up (by assumption) (by tb_start)); (case h6 => k_mem); (case h4 => first | assumption | exact exsUp (by assumption) (by tb_start)); (case h2 => first | omega | (simp only [List.length_append, List.length_cons, List.length_nil] at *; omega)); (case kO => k_all); (case kd => (try dsimp only [Around.deeper]); omega); (case ku => (try dsimp only [Around.deeper]); omega)); (intro r' o' tl' h' tk' F' N' hf' ho' hP'); (obtain ⟨e1', hJ'⟩ := hP'); (subst e1'); (try simp only [List.nil_append, List.cons_append, List.append_nil, List.append_assoc] at N'); (try k_sweep); (try dsimp only); (try k_fold)) | with_reducible (k_here; (with_reducible show wpAny _ _ (call (Value.ref 119) [Value.ref _, _, _] _) _ _ _); k_dflt (refine' MDoes.use ?k1 ?k2 ?k3 ?k4 ?k5 ?k6 ?k7 ?kP (ChkE.use ?h0 ?h1 ?h2 ?h3 ?h4 ?h5) ?kJ ?kO ?kd ?ku ?_; (case k1 => k_asm); (case k2 => k_asm); (case k3 => k_asm); (case k4 => k_asm); (case k5 => k_asm); (case k6 => first | exact rfl | assumption); (case k7 => first | exact rfl | assumption); (case kJ => assumption); (case kP => repeat (first | exact Pick.head | apply Pick.tail)); (case h5 => assumption); (case h0 => exact RepAt.up (by assumption) (by tb_start)); (case h1 => tb_start); (case h3 => exact TabIn.up (by assumption) (by tb_start)); (case h4 => first | assumption | exact ExIn.up (by assumption) (by tb_start)); (case h2 => first | omega | (simp only [List.length_append, List.length_cons, List.length_nil] at *; omega)); (case kO => k_all); (case kd => (try dsimp only [Around.deeper]); omega); (case ku => (try dsimp only [Around.deeper]); omega)); (intro r' o' tl' h' tk' F' N' hf' ho' hP'); (obtain ⟨e1', hJ'⟩ := hP'); (subst e1'); (try simp only [List.nil_append, List.cons_append, List.append_nil, List.append_assoc] at N'); (try k_sweep); (try dsimp only); (try k_fold)) | with_reducible (k_here; (with_reducible show wpAny _ _ (call (Value.ref 35) [Value.ref _, Value.str _ _, Value.int _ _, Value.str _ _] _) _ _ _); k_dflt (refine' MDoes.use ?k1 ?k2 ?k3 ?k4 ?k5 ?k6 ?k7 ?kP (add ?h0 ?h1 ?h2) ?kJ ?kO ?kd ?ku ?_; (case k1 => k_asm); (case k2 => k_asm); (case k3 => k_asm); (case k4 => k_asm); (case k5 => k_asm); (case k6 => first | exact rfl | assumption); (case k7 => first | exact rfl | assumption); (case kJ => assumption); (case kP => repeat (first | exact Pick.head | apply Pick.tail)); (case h0 => exact RepAt.up (by assumption) (by tb_start)); (case h1 => tb_start); (case h2 => simp only [List.length_append, List.length_cons, List.length_nil] at *; omega); (case kO => k_all); (case kd => (try dsimp only [Around.deeper]); omega); (case ku => (try dsimp only [Around.deeper]); omega)); (intro r' o' tl' h' tk' F' N' hf' ho' hP'); (obtain ⟨e1', hJ'⟩ := hP'); (subst e1'); (try simp only [List.nil_append, List.cons_append, List.append_nil, List.append_assoc] at N'); (try k_sweep); (try dsimp only); (try k_fold)) | with_reducible (k_here; (with_reducible show wpAny _ _ (call (Value.builtin _) [Value.ref _, _]) _ _ _); k_dflt (refine' append_led ?k1 ?k2 ?k3 ?z ?_; (case k1 => k_asm); (case k2 => k_asm); (case k3 => k_upd); (case z => omega)); intro h' F' N'; (try k_sweep)))) | walk1 | ((refine' Hid.use ?hQ ?_); (case hQ => with_reducible assumption); (try dsimp only)) | dsimp only | (leave1; try dsimp only at *) | fail "no step")
  k_here
  refine' For_ledF ?kh ?_ ?c1
  (case kh => k_asm)
  (case c1 => intro _; with_unfolding_all rfl)
  (repeat' (first | ((with_reducible show wpAny _ _ _ _ _ (Shared.mk _ _ _ (_ + 1 + 1) _)); (refine forgetT ?_); (intro tk9); (try dsimp only)) | ((with_reducible show wpAny _ _ (PySem.exec _ _) _ _ _); ((fail_if_success (refine' hidden_test ?hQ ?_; (case hQ => with_reducible assumption))); (refine' hideQ ?_); (intro Q9 hQ9))) | (k_unfold; (try dsimp only)) | (k_end; wrow_close) | ((with_reducible show wpAny _ _ (call _ _ _) _ _ _); (first | with_reducible (k_here; (with_reducible show wpAny _ _ (call (Value.ref 191) [Value.ref _, _, _, Value.bool _] _) _ _ _); k_dflt (refine' MDoes.use ?k1 ?k2 ?k3 ?k4 ?k5 ?k6 ?k7 ?kP (ChkS.use ?h0 ?h1 ?h2 ?h3 ?h4 ?h5) ?kJ ?kO ?kd ?ku ?_; (case k1 => k_asm); (case k2 => k_asm); (case k3 => k_asm); (case k4 => k_asm); (case k5 => k_asm); (case k6 => first | exact rfl | assumption); (case k7 => first | exact rfl | assumption); (case kJ => assumption); (case kP => repeat (first | exact Pick.head | apply Pick.tail)); (case h5 => assumption); (case h0 => exact RepAt.up (by assumption) (by tb_start)); (case h1 => tb_start); (case h3 => exact TabIn.up (by assumption) (by tb_start)); (case h4 => first | assumption | exact StIn.up (by assumption) (by tb_start)); (case h2 => first | omega | (simp only [List.length_append, List.length_cons, List.length_nil] at *; omega)); (case kO => k_all); (case kd => (try dsimp only [Around.deeper]); omega); (case ku => (try dsimp only [Around.deeper]); omega)); (intro r' o' tl' h' tk' F' N' hf' ho' hP'); (obtain ⟨e1', hJ'⟩ := hP'); (subst e1'); (try simp only [List.nil_append, List.cons_append, List.append_nil, List.append_assoc] at N'); (try k_sweep); (try dsimp only); (try k_fold)) | with_reducible (k_here; (with_reducible show wpAny _ _ (call (Value.ref 126) [Value.ref _, _, Value.ref _] _) _ _ _); k_dflt (refine' MDoes.use ?k1 ?k2 ?k3 ?k4 ?k5 ?k6 ?k7 ?kP (ChkEach.use ?h0 ?h1 ?h2 ?h3 ?h4 ?h5 ?h6) ?kJ ?kO ?kd ?ku ?_; (case k1 => k_asm); (case k2 => k_asm); (case k3 => k_asm); (case k4 => k_asm); (case k5 => k_asm); (case k6 => first | exact rfl | assumption); (case k7 => first | exact rfl | assumption); (case kJ => assumption); (case kP => repeat (first | exact Pick.head | apply Pick.tail)); (case h5 => assumption); (case h0 => exact RepAt.up (by assumption) (by tb_start)); (case h1 => tb_start); (case h3 => exact TabIn.up (by assumption) (by tb_start)); (case h6 => k_mem); (case h4 => first | assumption | exact exsUp (by assumption) (by tb_start)); (case h2 => first | omega | (simp only [List.length_append, List.length_cons, List.length_nil] at *; omega)); (case kO => k_all); (case kd => (try dsimp only [Around.deeper]); omega); (case ku => (try dsimp only [Around.deeper]); omega)); (intro r' o' tl' h' tk' F' N' hf' ho' hP'); (obtain ⟨e1', hJ'⟩ := hP'); (subst e1'); (try simp only [List.nil_append, List.cons_append, List.append_nil, List.append_assoc] at N'); (try k_sweep); (try dsimp only); (try k_fold)) | with_reducible (k_here; (with_reducible show wpAny _ _ (call (Value.ref 119) [Value.ref _, _, _] _) _ _ _); k_dflt (refine' MDoes.use ?k1 ?k2 ?k3 ?k4 ?k5 ?k6 ?k7 ?kP (ChkE.use ?h0 ?h1 ?h2 ?h3 ?h4 ?h5) ?kJ ?kO ?kd ?ku ?_; (case k1 => k_asm); (case k2 => k_asm); (case k3 => k_asm); (case k4 => k_asm); (case k5 => k_asm); (case k6 => first | exact rfl | assumption); (case k7 => first | exact rfl | assumption); (case kJ => assumption); (case kP => repeat (first | exact Pick.head | apply Pick.tail)); (case h5 => assumption); (case h0 => exact RepAt.up (by assumption) (by tb_start)); (case h1 => tb_start); (case h3 => exact TabIn.up (by assumption) (by tb_start)); (case h4 => first | assumption | exact ExIn.up (by assumption) (by tb_start)); (case h2 => first | omega | (simp only [List.length_append, List.length_cons, List.length_nil] at *; omega)); (case kO => k_all); (case kd => (try dsimp only [Around.deeper]); omega); (case ku => (try dsimp only [Around.deeper]); omega)); (intro r' o' tl' h' tk' F' N' hf' ho' hP'); (obtain ⟨e1', hJ'⟩ := hP'); (subst e1'); (try simp only [List.nil_append, List.cons_append, List.append_nil, List.append_assoc] at N'); (try k_sweep); (try dsimp only); (try k_fold)) | with_reducible (k_here; (with_reducible show wpAny _ _ (call (Value.ref 35) [Value.ref _, Value.str _ _, Value.int _ _, Value.str _ _] _) _ _ _); k_dflt (refine' MDoes.use ?k1 ?k2 ?k3 ?k4 ?k5 ?k6 ?k7 ?kP (add ?h0 ?h1 ?h2) ?kJ ?kO ?kd ?ku ?_; (case k1 => k_asm); (case k2 => k_asm); (case k3 => k_asm); (case k4 => k_asm); (case k5 => k_asm); (case k6 => first | exact rfl | assumption); (case k7 => first | exact rfl | assumption); (case kJ => assumption); (case kP => repeat (first | exact Pick.head | apply Pick.tail)); (case h0 => exact RepAt.up (by assumption) (by tb_start)); (case h1 => tb_start); (case h2 => simp only [List.length_append, List.length_cons, List.length_nil] at *; omega); (case kO => k_all); (case kd => (try dsimp only [Around.deeper]); omega); (case ku => (try dsimp only [Around.deeper]); omega)); (intro r' o' tl' h' tk' F' N' hf' ho' hP'); (obtain ⟨e1', hJ'⟩ := hP'); (subst e1'); (try simp only [List.nil_append, List.cons_append, List.append_nil, List.append_assoc] at N'); (try k_sweep); (try dsimp only); (try k_fold)) | with_reducible (k_here; (with_reducible show wpAny _ _ (call (Value.builtin _) [Value.ref _, _]) _ _ _); k_dflt (refine' append_led ?k1 ?k2 ?k3 ?z ?_; (case k1 => k_asm); (case k2 => k_asm); (case k3 => k_upd); (case z => omega)); intro h' F' N'; (try k_sweep)))) | walk1 | ((refine' Hid.use ?hQ ?_); (case hQ => with_reducible assumption); (try dsimp only)) | dsimp only | (leave1; (try dsimp only)) | fail "no step"))

  refine iter_tuple rfl (by assumption) (by assumption) (by k_mem) ?_
  intro I St h1 F1 N1 hI hIt
  refine for_rep (Str.ofString "labels") (Str.ofString "inner") (Str.ofString "defaults") (Str.ofString "defaults") (fun v rows => ∃ d, BranchIn rest (StIn rest n) v d ∧ rows = d.2 b) (fun i _ _ u3 _ => ∃ t, u3 = some (.int (((ds.take i).filter (·.1)).length : Nat) t)) (rss := ds.map fun d => d.2 b) (paired_map _ (fun _ d h => ⟨d, h, rfl⟩) hp) hI F1 N1 (by k_mem) (by assumption) (by rw [List.length_append]; exact hlenD) ⟨_, rfl⟩ (fun _ _ _ _ _ hst h => letGo_tupleiter (hIt _ _ hst) h) ?_ ?_
  · intro i' v rows u1 u2 u3 u4 o' tl own cur h2 tk2 E' hv hr _ hcl hD hO ho1 ho2 F2 N2
    simp only [List.cons_append, List.append_assoc] at N2
    obtain ⟨tD, rfl⟩ := hD
    obtain ⟨d, hd1, ad, nd, mk, st, rs, rfl, hdm, hst, hdd⟩ := paired_get hp i' v hv
    have hrd : rows = d.2 b := by
      rw [List.getElem?_map, hd1] at hr
      exact (Option.some.inj hr).symm
    have hcnt := count_take hd1
    rcases hdd with ⟨rfl, rfl⟩ | ⟨bl, nbl, vl, rss, rfl, hbl, hvl, hpl, rfl⟩
    · dsimp only at hrd
      subst hrd
      (repeat' (first | ((with_reducible show wpAny _ _ _ _ _ (Shared.mk _ _ _ (_ + 1 + 1) _)); (refine forgetT ?_); (intro tk9); (try dsimp only)) | ((with_reducible show wpAny _ _ (PySem.exec _ _) _ _ _); ((fail_if_success (refine' hidden_test ?hQ ?_; (case hQ => with_reducible assumption))); (refine' hideQ ?_); (intro Q9 hQ9))) | (k_unfold; (try dsimp only)) | (k_end; wrow_close) | ((with_reducible show wpAny _ _ (call _ _ _) _ _ _); (first | with_reducible (k_here; (with_reducible show wpAny _ _ (call (Value.ref 191) [Value.ref _, _, _, Value.bool _] _) _ _ _); k_dflt (refine' MDoes.use ?k1 ?k2 ?k3 ?k4 ?k5 ?k6 ?k7 ?kP (ChkS.use ?h0 ?h1 ?h2 ?h3 ?h4 ?h5) ?kJ ?kO ?kd ?ku ?_; (case k1 => k_asm); (case k2 => k_asm); (case k3 => k_asm); (case k4 => k_asm); (case k5 => k_asm); (case k6 => first | exact rfl | assumption); (case k7 => first | exact rfl | assumption); (case kJ => assumption); (case kP => repeat (first | exact Pick.head | apply Pick.tail)); (case h5 => assumption); (case h0 => exact RepAt.up (by assumption) (by tb_start)); (case h1 => tb_start); (case h3 => exact TabIn.up (by assumption) (by tb_start)); (case h4 => first | assumption | exact StIn.up (by assumption) (by tb_start)); (case h2 => first | omega | (simp only [List.length_append, List.length_cons, List.length_nil] at *; omega)); (case kO => k_all); (case kd => (try dsimp only [Around.deeper]); omega); (case ku => (try dsimp only [Around.deeper]); omega)); (intro r' o' tl' h' tk' F' N' hf' ho' hP'); (obtain ⟨e1', hJ'⟩ := hP'); (subst e1'); (try simp only [List.nil_append, List.cons_append, List.append_nil, List.append_assoc] at N'); (try k_sweep); (try dsimp only); (try k_fold)) | with_reducible (k_here; (with_reducible show wpAny _ _ (call (Value.ref 126) [Value.ref _, _, Value.ref _] _) _ _ _); k_dflt (refine' MDoes.use ?k1 ?k2 ?k3 ?k4 ?k5 ?k6 ?k7 ?kP (ChkEach.use ?h0 ?h1 ?h2 ?h3 ?h4 ?h5 ?h6) ?kJ ?kO ?kd ?ku ?_; (case k1 => k_asm); (case k2 => k_asm); (case k3 => k_asm); (case k4 => k_asm); (case k5 => k_asm); (case k6 => first | exact rfl | assumption); (case k7 => first | exact rfl | assumption); (case kJ => assumption); (case kP => repeat (first | exact Pick.head | apply Pick.tail)); (case h5 => assumption); (case h0 => exact RepAt.up (by assumption) (by tb_start)); (case h1 => tb_start); (case h3 => exact TabIn.up (by assumption) (by tb_start)); (case h6 => k_mem); (case h4 => first | assumption | exact exsUp (by assumption) (by tb_start)); (case h2 => first | omega | (simp only [List.length_append, List.length_cons, List.length_nil] at *; omega)); (case kO => k_all); (case kd => (try dsimp only [Around.deeper]); omega); (case ku => (try dsimp only [Around.deeper]); omega)); (intro r' o' tl' h' tk' F' N' hf' ho' hP'); (obtain ⟨e1', hJ'⟩ := hP'); (subst e1'); (try simp only [List.nil_append, List.cons_append, List.append_nil, List.append_assoc] at N'); (try k_sweep); (try dsimp only); (try k_fold)) | with_reducible (k_here; (with_reducible show wpAny _ _ (call (Value.ref 119) [Value.ref _, _, _] _) _ _ _); k_dflt (refine' MDoes.use ?k1 ?k2 ?k3 ?k4 ?k5 ?k6 ?k7 ?kP (ChkE.use ?h0 ?h1 ?h2 ?h3 ?h4 ?h5) ?kJ ?kO ?kd ?ku ?_; (case k1 => k_asm); (case k2 => k_asm); (case k3 => k_asm); (case k4 => k_asm); (case k5 => k_asm); (case k6 => first | exact rfl | assumption); (case k7 => first | exact rfl | assumption); (case kJ => assumption); (case kP => repeat (first | exact Pick.head | apply Pick.tail)); (case h5 => assumption); (case h0 => exact RepAt.up (by assumption) (by tb_start)); (case h1 => tb_start); (case h3 => exact TabIn.up (by assumption) (by tb_start)); (case h4 => first | assumption | exact ExIn.up (by assumption) (by tb_start)); (case h2 => first | omega | (simp only [List.length_append, List.length_cons, List.length_nil] at *; omega)); (case kO => k_all); (case kd => (try dsimp only [Around.deeper]); omega); (case ku => (try dsimp only [Around.deeper]); omega)); (intro r' o' tl' h' tk' F' N' hf' ho' hP'); (obtain ⟨e1', hJ'⟩ := hP'); (subst e1'); (try simp only [List.nil_append, List.cons_append, List.append_nil, List.append_assoc] at N'); (try k_sweep); (try dsimp only); (try k_fold)) | with_reducible (k_here; (with_reducible show wpAny _ _ (call (Value.ref 35) [Value.ref _, Value.str _ _, Value.int _ _, Value.str _ _] _) _ _ _); k_dflt (refine' MDoes.use ?k1 ?k2 ?k3 ?k4 ?k5 ?k6 ?k7 ?kP (add ?h0 ?h1 ?h2) ?kJ ?kO ?kd ?ku ?_; (case k1 => k_asm); (case k2 => k_asm); (case k3 => k_asm); (case k4 => k_asm); (case k5 => k_asm); (case k6 => first | exact rfl | assumption); (case k7 => first | exact rfl | assumption); (case kJ => assumption); (case kP => repeat (first | exact Pick.head | apply Pick.tail)); (case h0 => exact RepAt.up (by assumption) (by tb_start)); (case h1 => tb_start); (case h2 => simp only [List.length_append, List.length_cons, List.length_nil] at *; omega); (case kO => k_all); (case kd => (try dsimp only [Around.deeper]); omega); (case ku => (try dsimp only [Around.deeper]); omega)); (intro r' o' tl' h' tk' F' N' hf' ho' hP'); (obtain ⟨e1', hJ'⟩ := hP'); (subst e1'); (try simp only [List.nil_append, List.cons_append, List.append_nil, List.append_assoc] at N'); (try k_sweep); (try dsimp only); (try k_fold)) | with_reducible (k_here; (with_reducible show wpAny _ _ (call (Value.builtin _) [Value.ref _, _]) _ _ _); k_dflt (refine' append_led ?k1 ?k2 ?k3 ?z ?_; (case k1 => k_asm); (case k2 => k_asm); (case k3 => k_upd); (case z => omega)); intro h' F' N'; (try k_sweep)))) | walk1 | ((refine' Hid.use ?hQ ?_); (case hQ => with_reducible assumption); (try dsimp only)) | dsimp only | (leave1; (try dsimp only)) | fail "no step"))
      refine' RepEnd.intro ?F ?N ?J ?P ?H ?S ?SS ?RR ?M ?D
      case F => assumption
      case N => assumption
      case J => exact by assumption
      case P => k_mem
      case SS => exact fun _ h => h
      case RR => first | rfl | (simp only [List.append_assoc])
      case H => tb_rel
      case S => tb_start
      case M => (intro z h1 h2 h3 h4; simp only [if_neg h1, if_neg h2, if_neg h3, if_neg h4])
      case D => (rw [hcnt]; exact ⟨_, rfl⟩)
    · dsimp only at hrd
      subst hrd
      rw [List.length_append] at hcl
      (repeat' (first | ((with_reducible show wpAny _ _ _ _ _ (Shared.mk _ _ _ (_ + 1 + 1) _)); (refine forgetT ?_); (intro tk9); (try dsimp only)) | ((with_reducible show wpAny _ _ (PySem.exec _ _) _ _ _); ((fail_if_success (refine' hidden_test ?hQ ?_; (case hQ => with_reducible assumption))); (refine' hideQ ?_); (intro Q9 hQ9))) | (k_unfold; (try dsimp only)) | (k_end; wrow_close) | ((with_reducible show wpAny _ _ (call _ _ _) _ _ _); (first | with_reducible (k_here; (with_reducible show wpAny _ _ (call (Value.ref 191) [Value.ref _, _, _, Value.bool _] _) _ _ _); k_dflt (refine' MDoes.use ?k1 ?k2 ?k3 ?k4 ?k5 ?k6 ?k7 ?kP (ChkS.use ?h0 ?h1 ?h2 ?h3 ?h4 ?h5) ?kJ ?kO ?kd ?ku ?_; (case k1 => k_asm); (case k2 => k_asm); (case k3 => k_asm); (case k4 => k_asm); (case k5 => k_asm); (case k6 => first | exact rfl | assumption); (case k7 => first | exact rfl | assumption); (case kJ => assumption); (case kP => repeat (first | exact Pick.head | apply Pick.tail)); (case h5 => assumption); (case h0 => exact RepAt.up (by assumption) (by tb_start)); (case h1 => tb_start); (case h3 => exact TabIn.up (by assumption) (by tb_start)); (case h4 => first | assumption | exact StIn.up (by assumption) (by tb_start)); (case h2 => first | omega | (simp only [List.length_append, List.length_cons, List.length_nil] at *; omega)); (case kO => k_all); (case kd => (try dsimp only [Around.deeper]); omega); (case ku => (try dsimp only [Around.deeper]); omega)); (intro r' o' tl' h' tk' F' N' hf' ho' hP'); (obtain ⟨e1', hJ'⟩ := hP'); (subst e1'); (try simp only [List.nil_append, List.cons_append, List.append_nil, List.append_assoc] at N'); (try k_sweep); (try dsimp only); (try k_fold)) | with_reducible (k_here; (with_reducible show wpAny _ _ (call (Value.ref 126) [Value.ref _, _, Value.ref _] _) _ _ _); k_dflt (refine' MDoes.use ?k1 ?k2 ?k3 ?k4 ?k5 ?k6 ?k7 ?kP (ChkEach.use ?h0 ?h1 ?h2 ?h3 ?h4 ?h5 ?h6) ?kJ ?kO ?kd ?ku ?_; (case k1 => k_asm); (case k2 => k_asm); (case k3 => k_asm); (case k4 => k_asm); (case k5 => k_asm); (case k6 => first | exact rfl | assumption); (case k7 => first | exact rfl | assumption); (case kJ => assumption); (case kP => repeat (first | exact Pick.head | apply Pick.tail)); (case h5 => assumption); (case h0 => exact RepAt.up (by assumption) (by tb_start)); (case h1 => tb_start); (case h3 => exact TabIn.up (by assumption) (by tb_start)); (case h6 => k_mem); (case h4 => first | assumption | exact exsUp (by assumption) (by tb_start)); (case h2 => first | omega | (simp only [List.length_append, List.length_cons, List.length_nil] at *; omega)); (case kO => k_all); (case kd => (try dsimp only [Around.deeper]); omega); (case ku => (try dsimp only [Around.deeper]); omega)); (intro r' o' tl' h' tk' F' N' hf' ho' hP'); (obtain ⟨e1', hJ'⟩ := hP'); (subst e1'); (try simp only [List.nil_append, List.cons_append, List.append_nil, List.append_assoc] at N'); (try k_sweep); (try dsimp only); (try k_fold)) | with_reducible (k_here; (with_reducible show wpAny _ _ (call (Value.ref 119) [Value.ref _, _, _] _) _ _ _); k_dflt (refine' MDoes.use ?k1 ?k2 ?k3 ?k4 ?k5 ?k6 ?k7 ?kP (ChkE.use ?h0 ?h1 ?h2 ?h3 ?h4 ?h5) ?kJ ?kO ?kd ?ku ?_; (case k1 => k_asm); (case k2 => k_asm); (case k3 => k_asm); (case k4 => k_asm); (case k5 => k_asm); (case k6 => first | exact rfl | assumption); (case k7 => first | exact rfl | assumption); (case kJ => assumption); (case kP => repeat (first | exact Pick.head | apply Pick.tail)); (case h5 => assumption); (case h0 => exact RepAt.up (by assumption) (by tb_start)); (case h1 => tb_start); (case h3 => exact TabIn.up (by assumption) (by tb_start)); (case h4 => first | assumption | exact ExIn.up (by assumption) (by tb_start)); (case h2 => first | omega | (simp only [List.length_append, List.length_cons, List.length_nil] at *; omega)); (case kO => k_all); (case kd => (try dsimp only [Around.deeper]); omega); (case ku => (try dsimp only [Around.deeper]); omega)); (intro r' o' tl' h' tk' F' N' hf' ho' hP'); (obtain ⟨e1', hJ'⟩ := hP'); (subst e1'); (try simp only [List.nil_append, List.cons_append, List.append_nil, List.append_assoc] at N'); (try k_sweep); (try dsimp only); (try k_fold)) | with_reducible (k_here; (with_reducible show wpAny _ _ (call (Value.ref 35) [Value.ref _, Value.str _ _, Value.int _ _, Value.str _ _] _) _ _ _); k_dflt (refine' MDoes.use ?k1 ?k2 ?k3 ?k4 ?k5 ?k6 ?k7 ?kP (add ?h0 ?h1 ?h2) ?kJ ?kO ?kd ?ku ?_; (case k1 => k_asm); (case k2 => k_asm); (case k3 => k_asm); (case k4 => k_asm); (case k5 => k_asm); (case k6 => first | exact rfl | assumption); (case k7 => first | exact rfl | assumption); (case kJ => assumption); (case kP => repeat (first | exact Pick.head | apply Pick.tail)); (case h0 => exact RepAt.up (by assumption) (by tb_start)); (case h1 => tb_start); (case h2 => simp only [List.length_append, List.length_cons, List.length_nil] at *; omega); (case kO => k_all); (case kd => (try dsimp only [Around.deeper]); omega); (case ku => (try dsimp only [Around.deeper]); omega)); (intro r' o' tl' h' tk' F' N' hf' ho' hP'); (obtain ⟨e1', hJ'⟩ := hP'); (subst e1'); (try simp only [List.nil_append, List.cons_append, List.append_nil, List.append_assoc] at N'); (try k_sweep); (try dsimp only); (try k_fold)) | with_reducible (k_here; (with_reducible show wpAny _ _ (call (Value.builtin _) [Value.ref _, _]) _ _ _); k_dflt (refine' append_led ?k1 ?k2 ?k3 ?z ?_; (case k1 => k_asm); (case k2 => k_asm); (case k3 => k_upd); (case z => omega)); intro h' F' N'; (try k_sweep)))) | walk1 | ((refine' Hid.use ?hQ ?_); (case hQ => with_reducible assumption); (try dsimp only)) | dsimp only | (leave1; (try dsimp only)) | fail "no step"))
      refine' RepEnd.intro ?F ?N ?J ?P ?H ?S ?SS ?RR ?M ?D
      case F => assumption
      case N => assumption
      case J => exact Rep.assoc (by assumption)
      case P => k_mem
      case SS => exact fun _ h => h
      case RR => first | rfl | (simp only [List.append_assoc])
      case H => tb_rel
      case S => tb_start
      case M => (intro z h1 h2 h3 h4; simp only [if_neg h1, if_neg h2, if_neg h3, if_neg h4])
      case D => (rw [hcnt]; exact ⟨_, rfl⟩)
  · intro u1 u2 u3 u4 o' tl h2 tk2 hO hf hD F2 N2
    simp only [List.cons_append, List.append_assoc] at N2
    rw [show ds.take vs.length = ds from List.take_of_length_le (by rw [Paired.length hp]; exact Nat.le_refl _)] at hD
    obtain ⟨tD, rfl⟩ := hD
    have hoj := hf.off
    (repeat' (first | ((with_reducible show wpAny _ _ _ _ _ (Shared.mk _ _ _ (_ + 1 + 1) _)); (refine forgetT ?_); (intro tk9); (try dsimp only)) | ((with_reducible show wpAny _ _ (PySem.exec _ _) _ _ _); ((fail_if_success (refine' hidden_test ?hQ ?_; (case hQ => with_reducible assumption))); (refine' hideQ ?_); (intro Q9 hQ9))) | (k_unfold; (try dsimp only)) | (k_end; wrow_close) | ((with_reducible show wpAny _ _ (call _ _ _) _ _ _); (first | with_reducible (k_here; (with_reducible show wpAny _ _ (call (Value.ref 191) [Value.ref _, _, _, Value.bool _] _) _ _ _); k_dflt (refine' MDoes.use ?k1 ?k2 ?k3 ?k4 ?k5 ?k6 ?k7 ?kP (ChkS.use ?h0 ?h1 ?h2 ?h3 ?h4 ?h5) ?kJ ?kO ?kd ?ku ?_; (case k1 => k_asm); (case k2 => k_asm); (case k3 => k_asm); (case k4 => k_asm); (case k5 => k_asm); (case k6 => first | exact rfl | assumption); (case k7 => first | exact rfl | assumption); (case kJ => assumption); (case kP => repeat (first | exact Pick.head | apply Pick.tail)); (case h5 => assumption); (case h0 => exact RepAt.up (by assumption) (by tb_start)); (case h1 => tb_start); (case h3 => exact TabIn.up (by assumption) (by tb_start)); (case h4 => first | assumption | exact StIn.up (by assumption) (by tb_start)); (case h2 => first | omega | (simp only [List.length_append, List.length_cons, List.length_nil] at *; omega)); (case kO => k_all); (case kd => (try dsimp only [Around.deeper]); omega); (case ku => (try dsimp only [Around.deeper]); omega)); (intro r' o' tl' h' tk' F' N' hf' ho' hP'); (obtain ⟨e1', hJ'⟩ := hP'); (subst e1'); (try simp only [List.nil_append, List.cons_append, List.append_nil, List.append_assoc] at N'); (try k_sweep); (try dsimp only); (try k_fold)) | with_reducible (k_here; (with_reducible show wpAny _ _ (call (Value.ref 126) [Value.ref _, _, Value.ref _] _) _ _ _); k_dflt (refine' MDoes.use ?k1 ?k2 ?k3 ?k4 ?k5 ?k6 ?k7 ?kP (ChkEach.use ?h0 ?h1 ?h2 ?h3 ?h4 ?h5 ?h6) ?kJ ?kO ?kd ?ku ?_; (case k1 => k_asm); (case k2 => k_asm); (case k3 => k_asm); (case k4 => k_asm); (case k5 => k_asm); (case k6 => first | exact rfl | assumption); (case k7 => first | exact rfl | assumption); (case kJ => assumption); (case kP => repeat (first | exact Pick.head | apply Pick.tail)); (case h5 => assumption); (case h0 => exact RepAt.up (by assumption) (by tb_start)); (case h1 => tb_start); (case h3 => exact TabIn.up (by assumption) (by tb_start)); (case h6 => k_mem); (case h4 => first | assumption | exact exsUp (by assumption) (by tb_start)); (case h2 => first | omega | (simp only [List.length_append, List.length_cons, List.length_nil] at *; omega)); (case kO => k_all); (case kd => (try dsimp only [Around.deeper]); omega); (case ku => (try dsimp only [Around.deeper]); omega)); (intro r' o' tl' h' tk' F' N' hf' ho' hP'); (obtain ⟨e1', hJ'⟩ := hP'); (subst e1'); (try simp only [List.nil_append, List.cons_append, List.append_nil, List.append_assoc] at N'); (try k_sweep); (try dsimp only); (try k_fold)) | with_reducible (k_here; (with_reducible show wpAny _ _ (call (Value.ref 119) [Value.ref _, _, _] _) _ _ _); k_dflt (refine' MDoes.use ?k1 ?k2 ?k3 ?k4 ?k5 ?k6 ?k7 ?kP (ChkE.use ?h0 ?h1 ?h2 ?h3 ?h4 ?h5) ?kJ ?kO ?kd ?ku ?_; (case k1 => k_asm); (case k2 => k_asm); (case k3 => k_asm); (case k4 => k_asm); (case k5 => k_asm); (case k6 => first | exact rfl | assumption); (case k7 => first | exact rfl | assumption); (case kJ => assumption); (case kP => repeat (first | exact Pick.head | apply Pick.tail)); (case h5 => assumption); (case h0 => exact RepAt.up (by assumption) (by tb_start)); (case h1 => tb_start); (case h3 => exact TabIn.up (by assumption) (by tb_start)); (case h4 => first | assumption | exact ExIn.up (by assumption) (by tb_start)); (case h2 => first | omega | (simp only [List.length_append, List.length_cons, List.length_nil] at *; omega)); (case kO => k_all); (case kd => (try dsimp only [Around.deeper]); omega); (case ku => (try dsimp only [Around.deeper]); omega)); (intro r' o' tl' h' tk' F' N' hf' ho' hP'); (obtain ⟨e1', hJ'⟩ := hP'); (subst e1'); (try simp only [List.nil_append, List.cons_append, List.append_nil, List.append_assoc] at N'); (try k_sweep); (try dsimp only); (try k_fold)) | with_reducible (k_here; (with_reducible show wpAny _ _ (call (Value.ref 35) [Value.ref _, Value.str _ _, Value.int _ _, Value.str _ _] _) _ _ _); k_dflt (refine' MDoes.use ?k1 ?k2 ?k3 ?k4 ?k5 ?k6 ?k7 ?kP (add ?h0 ?h1 ?h2) ?kJ ?kO ?kd ?ku ?_; (case k1 => k_asm); (case k2 => k_asm); (case k3 => k_asm); (case k4 => k_asm); (case k5 => k_asm); (case k6 => first | exact rfl | assumption); (case k7 => first | exact rfl | assumption); (case kJ => assumption); (case kP => repeat (first | exact Pick.head | apply Pick.tail)); (case h0 => exact RepAt.up (by assumption) (by tb_start)); (case h1 => tb_start); (case h2 => simp only [List.length_append, List.length_cons, List.length_nil] at *; omega); (case kO => k_all); (case kd => (try dsimp only [Around.deeper]); omega); (case ku => (try dsimp only [Around.deeper]); omega)); (intro r' o' tl' h' tk' F' N' hf' ho' hP'); (obtain ⟨e1', hJ'⟩ := hP'); (subst e1'); (try simp only [List.nil_append, List.cons_append, List.append_nil, List.append_assoc] at N'); (try k_sweep); (try dsimp only); (try k_fold)) | with_reducible (k_here; (with_reducible show wpAny _ _ (call (Value.builtin _) [Value.ref _, _]) _ _ _); k_dflt (refine' append_led ?k1 ?k2 ?k3 ?z ?_; (case k1 => k_asm); (case k2 => k_asm); (case k3 => k_upd); (case z => omega)); intro h' F' N'; (try k_sweep)))) | walk1 | ((refine' Hid.use ?hQ ?_); (case hQ => with_reducible assumption); (try dsimp only)) | dsimp only | (leave1; (try dsimp only)) | fail "no step"))
    · refine' MDoes.finI hret ?F ?N ?S ?H ⟨rfl, ?J⟩
      case F => assumption
      case N => assumption
      case J => exact Rep.cast (Rep.assoc3 (by assumption)) (fun _ h => h) (by simp only [caseRows, List.append_assoc]; rw [if_pos (by omega)])
      case H => tb_rel
      case S => tb_start
    · refine' MDoes.finI hret ?F ?N ?S ?H ⟨rfl, ?J⟩
      case F => assumption
      case N => assumption
      case J => exact Rep.cast (Rep.assoc (by assumption)) (fun _ h => h) (by simp only [caseRows, List.append_assoc]; rw [if_neg (by omega), List.append_nil])
      case H => tb_rel
      case S => tb_start

theorem chkC2 {w : World} : ChkC w 2 11 := by
  have c0 : ChkC w 0 7 := chkC (by omega) chkS0
  have s1 : ChkS w 1 8 := chkSS (by omega) (chkS0.weak (by omega)) c0
  have c1 : ChkC w 1 9 := chkC (by omega) s1
  have s2 : ChkS w 2 10 := chkSS (by omega) (s1.weak (by omega)) c1
  exact chkC (by omega) s2
open PySem PySem.W PySem.Calls PyProof.Rows PySem.Spec
theorem frag_on19 : (hdS.heap_1 = hdS.heap_1 ∧ PySem.Challenge.rw_on0122_01 = PySem.Challenge.rw_on0122_01) := by
  k_fill
  exact ⟨rfl, rfl⟩
theorem item_head {prog : Program} {w : World} {A : Around} {E : Value → Shared → Prop} {s : Shared} {h₀ : Heap} {L : Addr} {news : Led} {value slice : Expr} {b : Addr} {v : Value} {vs : List Value} {n : Nat} {u : Tok} {Q : Value → Shared → Prop}
    (N : News h₀ L s.heap news) (hm : (b, tupO (v :: vs) n) ∈ news) (h : Q v s)
    (hs : subscripted slice false (.ref b) (.int 0 u) = operate [.ref b, .int 0 u] (getItem (.ref b) (.int 0 u))) (hg : ∀ r, letTemporaryGo value (.ref b) r = pure ()) :
    wpAny (model prog w) A (subscriptTail value slice (.ref b) (.int 0 u)) Q E s :=
  kim_tup (j := 0) N hm rfl rfl (by decide) (by decide) (by simp [seqIndex?]) rfl h hs hg
theorem eq_tup_str {prog : Program} {w : World} {A : Around} {E : Value → Shared → Prop} {s : Shared} {h₀ : Heap} {L : Addr} {news : Led} {a : Addr} {vs : List Value} {n : Nat} {x : Str} {u : Tok} {Q : Value → Shared → Prop}
    (N : News h₀ L s.heap news) (hm : (a, tupO vs n) ∈ news) (hu : A.units < cLine) (h : Q (.bool false) s) : wpAny (model prog w) A (compareOp .Eq (.ref a) (.str x u)) Q E s :=
  SeqAt.RcAt.tuple_str x u ⟨_, (N _ hm).1, rfl, n, rfl⟩ hu prog w E Q h

/-- one of the law's events -/
def EventIn (led : Led) (v : Value) (rows : Rws) : Prop := ∃ a n k t e, v = .ref a ∧ (a, tupO [.str k t, e] n) ∈ led ∧ ExIn led 1 e rows
theorem EventIn.mono {led led' : Led} (hs : ∀ p ∈ led, p ∈ led') {v : Value} {rows : Rws} : EventIn led v rows → EventIn led' v rows
  | ⟨a, n, k, t, e, h1, h2, h3⟩ => ⟨a, n, k, t, e, h1, hs _ h2, h3.mono hs⟩

set_option maxHeartbeats 8000000 in
theorem chkStar {w : World} {r l b : Addr} {rest S : Led} {old : Rws} {tv : Value} {t : Tok} {nb : Nat} (hm : (b, tupO [tx "star" t] nb) ∈ rest) :
    MDoes w 219 1 [.ref r, tv, .ref b] l rest (Rep S old) (fun res o' tl => res = .none ∧ tl = [] ∧ Rep S old o') := by
  intro o hJ ho dp un gd env outer A₀ base h₀ L m mean mg mb s Q E HA hd hu hret
  obtain ⟨B, F, X, N, T, fr, kd⟩ := HA
  refine wpAny_call ?_
  k_dflt ktr_enter
  (repeat' (first | ((with_reducible show wpAny _ _ _ _ _ (Shared.mk _ _ _ (_ + 1 + 1) _)); (refine forgetT ?_); (intro tk9); (try dsimp only)) | ((with_reducible show wpAny _ _ (PySem.exec _ _) _ _ _); ((fail_if_success (refine' hidden_test ?hQ ?_; (case hQ => with_reducible assumption))); (refine' hideQ ?_); (intro Q9 hQ9))) | (k_unfold; (try dsimp only)) | (k_end; wrow_close) | ((with_reducible show wpAny _ _ (call _ _ _) _ _ _); (first | with_reducible (k_here; (with_reducible show wpAny _ _ (call (Value.ref 119) [Value.ref _, _, _] _) _ _ _); k_dflt (refine' MDoes.use ?k1 ?k2 ?k3 ?k4 ?k5 ?k6 ?k7 ?kP (ChkE.use ?h0 ?h1 ?h2 ?h3 ?h4 ?h5) ?kJ ?kO ?kd ?ku ?_; (case k1 => k_asm); (case k2 => k_asm); (case k3 => k_asm); (case k4 => k_asm); (case k5 => k_asm); (case k6 => first | exact rfl | assumption); (case k7 => first | exact rfl | assumption); (case kJ => assumption); (case kP => repeat (first | exact Pick.head | apply Pick.tail)); (case h5 => assumption); (case h0 => exact RepAt.up (by assumption) (by tb_start)); (case h1 => tb_start); (case h3 => exact TabIn.up (by assumption) (by tb_start)); (case h4 => first | assumption | exact ExIn.up (by assumption) (by tb_start)); (case h2 => first | omega | (simp only [List.length_append, List.length_cons, List.length_nil] at *; omega)); (case kO => k_all); (case kd => (try dsimp only [Around.deeper]); omega); (case ku => (try dsimp only [Around.deeper]); omega)); (intro r' o' tl' h' tk' F' N' hf' ho' hP'); (obtain ⟨e1', hJ'⟩ := hP'); (subst e1'); (try simp only [List.nil_append, List.cons_append, List.append_nil, List.append_assoc] at N'); (try k_sweep); (try dsimp only); (try k_fold)) | with_reducible (k_here; (with_reducible show wpAny _ _ (call (Value.ref 35) [Value.ref _, Value.str _ _, Value.int _ _, Value.str _ _] _) _ _ _); k_dflt (refine' MDoes.use ?k1 ?k2 ?k3 ?k4 ?k5 ?k6 ?k7 ?kP (add ?h0 ?h1 ?h2) ?kJ ?kO ?kd ?ku ?_; (case k1 => k_asm); (case k2 => k_asm); (case k3 => k_asm); (case k4 => k_asm); (case k5 => k_asm); (case k6 => first | exact rfl | assumption); (case k7 => first | exact rfl | assumption); (case kJ => assumption); (case kP => repeat (first | exact Pick.head | apply Pick.tail)); (case h0 => exact RepAt.up (by assumption) (by tb_start)); (case h1 => tb_start); (case h2 => simp only [List.length_append, List.length_cons, List.length_nil] at *; omega); (case kO => k_all); (case kd => (try dsimp only [Around.deeper]); omega); (case ku => (try dsimp only [Around.deeper]); omega)); (intro r' o' tl' h' tk' F' N' hf' ho' hP'); (obtain ⟨e1', hJ'⟩ := hP'); (subst e1'); (try simp only [List.nil_append, List.cons_append, List.append_nil, List.append_assoc] at N'); (try k_sweep); (try dsimp only); (try k_fold)) | with_reducible (k_here; (with_reducible show wpAny _ _ (call (Value.builtin _) [Value.ref _, _]) _ _ _); k_dflt (refine' append_led ?k1 ?k2 ?k3 ?z ?_; (case k1 => k_asm); (case k2 => k_asm); (case k3 => k_upd); (case z => omega)); intro h' F' N'; (try k_sweep)))) | with_reducible (k_here; (with_reducible show wpAny _ _ (compareOp CmpOp.Eq (Value.ref _) (Value.str _ _)) _ _ _); k_dflt (refine' eq_tup_str ?k1 ?k2 ?k3 ?_; (case k1 => k_asm); (case k2 => k_mem); (case k3 => (try dsimp only [Around.deeper]); omega))) | with_reducible (k_here; (with_reducible show wpAny _ _ (compareOp CmpOp.Eq (Value.ref _) (Value.str _ _)) _ _ _); k_dflt (refine' eq_tup_str ?k1 ?k2 ?k3 ?_; (case k1 => k_asm); (case k2 => k_mem); (case k3 => (try dsimp only [Around.deeper]); omega))) | with_reducible (k_here; (with_reducible show wpAny _ _ (subscriptTail _ _ (Value.ref _) (Value.int 0 _)) _ _ _); k_dflt (refine' item_head ?k1 ?k2 ?_ ?k3 ?k4; (case k1 => k_asm); (case k2 => k_mem); (case k3 => with_unfolding_all rfl); (case k4 => (intro _; with_unfolding_all rfl)))) | walk1 | ((refine' Hid.use ?hQ ?_); (case hQ => with_reducible assumption); (try dsimp only)) | dsimp only | (leave1; (try dsimp only)) | fail "no step"))
  refine' MDoes.fin hret ?F ?N o [] ?S fresh_nil ⟨rfl, rfl, hJ⟩
  case F => assumption
  case N => assumption
  case S => tb_start

set_option maxHeartbeats 8000000 in
theorem chkEvents {w : World} {r l b : Addr} {rest S : Led} {old : Rws} {tv : Value} {vs : List Value} {nb : Nat} {rss : List Rws} (hR : RepAt r l rest) (hS : ∀ p ∈ S, p ∈ rest) (hlen : old.length + rss.flatten.length ≤ 90000) (hT : TabIn w rest tv) (hp : Paired (EventIn rest) vs rss) (hne : vs ≠ []) (hm : (b, tupO vs nb) ∈ rest) :
    MDoes w 219 6 [.ref r, tv, .ref b] l rest (Rep S old) (fun res o' tl => res = .none ∧ Rep (S ++ tl) (old ++ rss.flatten) o') := by
  have hc1 : ChkE w 1 5 := chkE1
  have hp0 := hp
  cases hp with
  | nil => exact absurd rfl hne
  | cons hv hvr =>
  obtain ⟨a, n, k, t, e, rfl, ha, he⟩ := hv
  intro o hJ ho dp un gd env outer A₀ base h₀ L m mean mg mb s Q E HA hd hu hret
  obtain ⟨B, F, X, N, T, fr, kd⟩ := HA
  refine wpAny_call ?_
  k_dflt ktr_enter
  repeat' (first | (fail_if_success (with_reducible show wpAny _ _ (exec (Stmt.For _ _ _ _ _) _) _ _ _)); first | ((with_reducible show wpAny _ _ _ _ _ (Shared.mk _ _ _ (_ + 1 + 1) _)); (refine forgetT ?_); (intro tk9); (try dsimp only)) | ((with_reducible show wpAny _ _ (PySem.exec _ _) _ _ _); ((fail_if_success (refine' hidden_test ?hQ ?_; (case hQ => with_reducible assumption))); (refine' hideQ ?_); (intro Q9 hQ9))) | (k_unfold; (try dsimp only)) | (k_end; wrow_close) | ((with_reducible show wpAny _ _ (call _ _ _) _ _ _); (first | with_reducible (k_here; (with_reducible show wpAny _ _ (call (Value.ref 119) [Value.ref _, _, _] _) _ _ _); k_dflt (refine' MDoes.use ?k1 ?k2 ?k3 ?k4 ?k5 ?k6 ?k7 ?kP (ChkE.use ?h0 ?h1 ?h2 ?h3 ?h4 ?h5) ?kJ ?kO ?kd ?ku ?_; (case k1 => k_asm); (case k2 => k_asm); (case k3 => k_asm); (case k4 => k_asm); (case k5 => k_asm); (case k6 => first | exact rfl | assumption); (case k7 => first | exact rfl | assumption); (case kJ => assumption); (case kP => repeat (first | exact Pick.head | apply Pick.tail)); (case h5 => assumption); (case h0 => exact RepAt.up (by assumption) (by tb_start)); (case h1 => tb_start); (case h3 => exact TabIn.up (by assumption) (by tb_start)); (case h4 => first | assumption | exact ExIn.up (by assumption) (by tb_start)); (case h2 => first | omega | (simp only [List.length_append, List.length_cons, List.length_nil] at *; omega)); (case kO => k_all); (case kd => (try dsimp only [Around.deeper]); omega); (case ku => (try dsimp only [Around.deeper]); omega)); (intro r' o' tl' h' tk' F' N' hf' ho' hP'); (obtain ⟨e1', hJ'⟩ := hP'); (subst e1'); (try simp only [List.nil_append, List.cons_append, List.append_nil, List.append_assoc] at N'); (try k_sweep); (try dsimp only); (try k_fold)) | with_reducible (k_here; (with_reducible show wpAny _ _ (call (Value.ref 35) [Value.ref _, Value.str _ _, Value.int _ _, Value.str _ _] _) _ _ _); k_dflt (refine' MDoes.use ?k1 ?k2 ?k3 ?k4 ?k5 ?k6 ?k7 ?kP (add ?h0 ?h1 ?h2) ?kJ ?kO ?kd ?ku ?_; (case k1 => k_asm); (case k2 => k_asm); (case k3 => k_asm); (case k4 => k_asm); (case k5 => k_asm); (case k6 => first | exact rfl | assumption); (case k7 => first | exact rfl | assumption); (case kJ => assumption); (case kP => repeat (first | exact Pick.head | apply Pick.tail)); (case h0 => exact RepAt.up (by assumption) (by tb_start)); (case h1 => tb_start); (case h2 => simp only [List.length_append, List.length_cons, List.length_nil] at *; omega); (case kO => k_all); (case kd => (try dsimp only [Around.deeper]); omega); (case ku => (try dsimp only [Around.deeper]); omega)); (intro r' o' tl' h' tk' F' N' hf' ho' hP'); (obtain ⟨e1', hJ'⟩ := hP'); (subst e1'); (try simp only [List.nil_append, List.cons_append, List.append_nil, List.append_assoc] at N'); (try k_sweep); (try dsimp only); (try k_fold)) | with_reducible (k_here; (with_reducible show wpAny _ _ (call (Value.builtin _) [Value.ref _, _]) _ _ _); k_dflt (refine' append_led ?k1 ?k2 ?k3 ?z ?_; (case k1 => k_asm); (case k2 => k_asm); (case k3 => k_upd); (case z => omega)); intro h' F' N'; (try k_sweep)))) | with_reducible (k_here; (with_reducible show wpAny _ _ (compareOp CmpOp.Eq (Value.ref _) (Value.str _ _)) _ _ _); k_dflt (refine' eq_tup_str ?k1 ?k2 ?k3 ?_; (case k1 => k_asm); (case k2 => k_mem); (case k3 => (try dsimp only [Around.deeper]); omega))) | with_reducible (k_here; (with_reducible show wpAny _ _ (compareOp CmpOp.Eq (Value.ref _) (Value.str _ _)) _ _ _); k_dflt (refine' eq_tup_str ?k1 ?k2 ?k3 ?_; (case k1 => k_asm); (case k2 => k_mem); (case k3 => (try dsimp only [Around.deeper]); omega))) | with_reducible (k_here; (with_reducible show wpAny _ _ (subscriptTail _ _ (Value.ref _) (Value.int 0 _)) _ _ _); k_dflt (refine' item_head ?k1 ?k2 ?_ ?k3 ?k4; (case k1 => k_asm); (case k2 => k_mem); (case k3 => with_unfolding_all rfl); (case k4 => (intro _; with_unfolding_all rfl)))) | walk1 | ((refine' Hid.use ?hQ ?_); (case hQ => with_reducible assumption); (try dsimp only)) | dsimp only | (leave1; try dsimp only at *) | fail "no step")
  k_here
  refine' For_ledF ?kh ?_ ?c1
  (case kh => k_asm)
  (case c1 => intro _; with_unfolding_all rfl)
  (repeat' (first | ((with_reducible show wpAny _ _ _ _ _ (Shared.mk _ _ _ (_ + 1 + 1) _)); (refine forgetT ?_); (intro tk9); (try dsimp only)) | ((with_reducible show wpAny _ _ (PySem.exec _ _) _ _ _); ((fail_if_success (refine' hidden_test ?hQ ?_; (case hQ => with_reducible assumption))); (refine' hideQ ?_); (intro Q9 hQ9))) | (k_unfold; (try dsimp only)) | (k_end; wrow_close) | ((with_reducible show wpAny _ _ (call _ _ _) _ _ _); (first | with_reducible (k_here; (with_reducible show wpAny _ _ (call (Value.ref 119) [Value.ref _, _, _] _) _ _ _); k_dflt (refine' MDoes.use ?k1 ?k2 ?k3 ?k4 ?k5 ?k6 ?k7 ?kP (ChkE.use ?h0 ?h1 ?h2 ?h3 ?h4 ?h5) ?kJ ?kO ?kd ?ku ?_; (case k1 => k_asm); (case k2 => k_asm); (case k3 => k_asm); (case k4 => k_asm); (case k5 => k_asm); (case k6 => first | exact rfl | assumption); (case k7 => first | exact rfl | assumption); (case kJ => assumption); (case kP => repeat (first | exact Pick.head | apply Pick.tail)); (case h5 => assumption); (case h0 => exact RepAt.up (by assumption) (by tb_start)); (case h1 => tb_start); (case h3 => exact TabIn.up (by assumption) (by tb_start)); (case h4 => first | assumption | exact ExIn.up (by assumption) (by tb_start)); (case h2 => first | omega | (simp only [List.length_append, List.length_cons, List.length_nil] at *; omega)); (case kO => k_all); (case kd => (try dsimp only [Around.deeper]); omega); (case ku => (try dsimp only [Around.deeper]); omega)); (intro r' o' tl' h' tk' F' N' hf' ho' hP'); (obtain ⟨e1', hJ'⟩ := hP'); (subst e1'); (try simp only [List.nil_append, List.cons_append, List.append_nil, List.append_assoc] at N'); (try k_sweep); (try dsimp only); (try k_fold)) | with_reducible (k_here; (with_reducible show wpAny _ _ (call (Value.ref 35) [Value.ref _, Value.str _ _, Value.int _ _, Value.str _ _] _) _ _ _); k_dflt (refine' MDoes.use ?k1 ?k2 ?k3 ?k4 ?k5 ?k6 ?k7 ?kP (add ?h0 ?h1 ?h2) ?kJ ?kO ?kd ?ku ?_; (case k1 => k_asm); (case k2 => k_asm); (case k3 => k_asm); (case k4 => k_asm); (case k5 => k_asm); (case k6 => first | exact rfl | assumption); (case k7 => first | exact rfl | assumption); (case kJ => assumption); (case kP => repeat (first | exact Pick.head | apply Pick.tail)); (case h0 => exact RepAt.up (by assumption) (by tb_start)); (case h1 => tb_start); (case h2 => simp only [List.length_append, List.length_cons, List.length_nil] at *; omega); (case kO => k_all); (case kd => (try dsimp only [Around.deeper]); omega); (case ku => (try dsimp only [Around.deeper]); omega)); (intro r' o' tl' h' tk' F' N' hf' ho' hP'); (obtain ⟨e1', hJ'⟩ := hP'); (subst e1'); (try simp only [List.nil_append, List.cons_append, List.append_nil, List.append_assoc] at N'); (try k_sweep); (try dsimp only); (try k_fold)) | with_reducible (k_here; (with_reducible show wpAny _ _ (call (Value.builtin _) [Value.ref _, _]) _ _ _); k_dflt (refine' append_led ?k1 ?k2 ?k3 ?z ?_; (case k1 => k_asm); (case k2 => k_asm); (case k3 => k_upd); (case z => omega)); intro h' F' N'; (try k_sweep)))) | with_reducible (k_here; (with_reducible show wpAny _ _ (compareOp CmpOp.Eq (Value.ref _) (Value.str _ _)) _ _ _); k_dflt (refine' eq_tup_str ?k1 ?k2 ?k3 ?_; (case k1 => k_asm); (case k2 => k_mem); (case k3 => (try dsimp only [Around.deeper]); omega))) | with_reducible (k_here; (with_reducible show wpAny _ _ (compareOp CmpOp.Eq (Value.ref _) (Value.str _ _)) _ _ _); k_dflt (refine' eq_tup_str ?k1 ?k2 ?k3 ?_; (case k1 => k_asm); (case k2 => k_mem); (case k3 => (try dsimp only [Around.deeper]); omega))) | with_reducible (k_here; (with_reducible show wpAny _ _ (subscriptTail _ _ (Value.ref _) (Value.int 0 _)) _ _ _); k_dflt (refine' item_head ?k1 ?k2 ?_ ?k3 ?k4; (case k1 => k_asm); (case k2 => k_mem); (case k3 => with_unfolding_all rfl); (case k4 => (intro _; with_unfolding_all rfl)))) | walk1 | ((refine' Hid.use ?hQ ?_); (case hQ => with_reducible assumption); (try dsimp only)) | dsimp only | (leave1; (try dsimp only)) | fail "no step"))

  refine iter_tuple rfl (by assumption) (by assumption) (List.mem_cons_of_mem _ hm) ?_
  intro I St h1 F1 N1 hI hIt
  refine for_rep (Str.ofString "edge") (Str.ofString "e") (Str.ofString "e") (Str.ofString "e") (EventIn rest) (fun _ _ _ _ _ => True) hp0 hI F1 N1 hm hJ hlen trivial (fun _ _ _ _ _ hst h => letGo_tupleiter (hIt _ _ hst) h) ?_ ?_
  · intro i v rows u1 u2 u3 u4 o' tl own cur h2 tk2 E' hv hr hrel hcl _ hO ho1 ho2 F2 N2
    obtain ⟨a', n', k', t', e', rfl, ha', he'⟩ := hrel
    (try simp only [List.cons_append, List.append_assoc] at N2)
    (repeat' (first | ((with_reducible show wpAny _ _ _ _ _ (Shared.mk _ _ _ (_ + 1 + 1) _)); (refine forgetT ?_); (intro tk9); (try dsimp only)) | ((with_reducible show wpAny _ _ (PySem.exec _ _) _ _ _); ((fail_if_success (refine' hidden_test ?hQ ?_; (case hQ => with_reducible assumption))); (refine' hideQ ?_); (intro Q9 hQ9))) | (k_unfold; (try dsimp only)) | (k_end; wrow_close) | ((with_reducible show wpAny _ _ (call _ _ _) _ _ _); (first | with_reducible (k_here; (with_reducible show wpAny _ _ (call (Value.ref 119) [Value.ref _, _, _] _) _ _ _); k_dflt (refine' MDoes.use ?k1 ?k2 ?k3 ?k4 ?k5 ?k6 ?k7 ?kP (ChkE.use ?h0 ?h1 ?h2 ?h3 ?h4 ?h5) ?kJ ?kO ?kd ?ku ?_; (case k1 => k_asm); (case k2 => k_asm); (case k3 => k_asm); (case k4 => k_asm); (case k5 => k_asm); (case k6 => first | exact rfl | assumption); (case k7 => first | exact rfl | assumption); (case kJ => assumption); (case kP => repeat (first | exact Pick.head | apply Pick.tail)); (case h5 => assumption); (case h0 => exact RepAt.up (by assumption) (by tb_start)); (case h1 => tb_start); (case h3 => exact TabIn.up (by assumption) (by tb_start)); (case h4 => first | assumption | exact ExIn.up (by assumption) (by tb_start)); (case h2 => first | omega | (simp only [List.length_append, List.length_cons, List.length_nil] at *; omega)); (case kO => k_all); (case kd => (try dsimp only [Around.deeper]); omega); (case ku => (try dsimp only [Around.deeper]); omega)); (intro r' o' tl' h' tk' F' N' hf' ho' hP'); (obtain ⟨e1', hJ'⟩ := hP'); (subst e1'); (try simp only [List.nil_append, List.cons_append, List.append_nil, List.append_assoc] at N'); (try k_sweep); (try dsimp only); (try k_fold)) | with_reducible (k_here; (with_reducible show wpAny _ _ (call (Value.ref 35) [Value.ref _, Value.str _ _, Value.int _ _, Value.str _ _] _) _ _ _); k_dflt (refine' MDoes.use ?k1 ?k2 ?k3 ?k4 ?k5 ?k6 ?k7 ?kP (add ?h0 ?h1 ?h2) ?kJ ?kO ?kd ?ku ?_; (case k1 => k_asm); (case k2 => k_asm); (case k3 => k_asm); (case k4 => k_asm); (case k5 => k_asm); (case k6 => first | exact rfl | assumption); (case k7 => first | exact rfl | assumption); (case kJ => assumption); (case kP => repeat (first | exact Pick.head | apply Pick.tail)); (case h0 => exact RepAt.up (by assumption) (by tb_start)); (case h1 => tb_start); (case h2 => simp only [List.length_append, List.length_cons, List.length_nil] at *; omega); (case kO => k_all); (case kd => (try dsimp only [Around.deeper]); omega); (case ku => (try dsimp only [Around.deeper]); omega)); (intro r' o' tl' h' tk' F' N' hf' ho' hP'); (obtain ⟨e1', hJ'⟩ := hP'); (subst e1'); (try simp only [List.nil_append, List.cons_append, List.append_nil, List.append_assoc] at N'); (try k_sweep); (try dsimp only); (try k_fold)) | with_reducible (k_here; (with_reducible show wpAny _ _ (call (Value.builtin _) [Value.ref _, _]) _ _ _); k_dflt (refine' append_led ?k1 ?k2 ?k3 ?z ?_; (case k1 => k_asm); (case k2 => k_asm); (case k3 => k_upd); (case z => omega)); intro h' F' N'; (try k_sweep)))) | with_reducible (k_here; (with_reducible show wpAny _ _ (compareOp CmpOp.Eq (Value.ref _) (Value.str _ _)) _ _ _); k_dflt (refine' eq_tup_str ?k1 ?k2 ?k3 ?_; (case k1 => k_asm); (case k2 => k_mem); (case k3 => (try dsimp only [Around.deeper]); omega))) | with_reducible (k_here; (with_reducible show wpAny _ _ (compareOp CmpOp.Eq (Value.ref _) (Value.str _ _)) _ _ _); k_dflt (refine' eq_tup_str ?k1 ?k2 ?k3 ?_; (case k1 => k_asm); (case k2 => k_mem); (case k3 => (try dsimp only [Around.deeper]); omega))) | with_reducible (k_here; (with_reducible show wpAny _ _ (subscriptTail _ _ (Value.ref _) (Value.int 0 _)) _ _ _); k_dflt (refine' item_head ?k1 ?k2 ?_ ?k3 ?k4; (case k1 => k_asm); (case k2 => k_mem); (case k3 => with_unfolding_all rfl); (case k4 => (intro _; with_unfolding_all rfl)))) | walk1 | ((refine' Hid.use ?hQ ?_); (case hQ => with_reducible assumption); (try dsimp only)) | dsimp only | (leave1; (try dsimp only)) | fail "no step"))
    refine' RepEnd.intro ?F ?N ?J ?P ?H ?S ?SS rfl ?M ?D
    case F => assumption
    case N => assumption
    case J => assumption
    case P => k_mem
    case SS => exact fun _ h => h
    case H => tb_rel
    case S => tb_start
    case M => (intro z h1 h2 h3 h4; simp only [if_neg h1, if_neg h2, if_neg h3, if_neg h4])
    case D => trivial
  · intro u1 u2 u3 u4 o' tl h2 tk2 hO hf _ F2 N2
    (repeat' (first | ((with_reducible show wpAny _ _ _ _ _ (Shared.mk _ _ _ (_ + 1 + 1) _)); (refine forgetT ?_); (intro tk9); (try dsimp only)) | ((with_reducible show wpAny _ _ (PySem.exec _ _) _ _ _); ((fail_if_success (refine' hidden_test ?hQ ?_; (case hQ => with_reducible assumption))); (refine' hideQ ?_); (intro Q9 hQ9))) | (k_unfold; (try dsimp only)) | (k_end; wrow_close) | ((with_reducible show wpAny _ _ (call _ _ _) _ _ _); (first | with_reducible (k_here; (with_reducible show wpAny _ _ (call (Value.ref 119) [Value.ref _, _, _] _) _ _ _); k_dflt (refine' MDoes.use ?k1 ?k2 ?k3 ?k4 ?k5 ?k6 ?k7 ?kP (ChkE.use ?h0 ?h1 ?h2 ?h3 ?h4 ?h5) ?kJ ?kO ?kd ?ku ?_; (case k1 => k_asm); (case k2 => k_asm); (case k3 => k_asm); (case k4 => k_asm); (case k5 => k_asm); (case k6 => first | exact rfl | assumption); (case k7 => first | exact rfl | assumption); (case kJ => assumption); (case kP => repeat (first | exact Pick.head | apply Pick.tail)); (case h5 => assumption); (case h0 => exact RepAt.up (by assumption) (by tb_start)); (case h1 => tb_start); (case h3 => exact TabIn.up (by assumption) (by tb_start)); (case h4 => first | assumption | exact ExIn.up (by assumption) (by tb_start)); (case h2 => first | omega | (simp only [List.length_append, List.length_cons, List.length_nil] at *; omega)); (case kO => k_all); (case kd => (try dsimp only [Around.deeper]); omega); (case ku => (try dsimp only [Around.deeper]); omega)); (intro r' o' tl' h' tk' F' N' hf' ho' hP'); (obtain ⟨e1', hJ'⟩ := hP'); (subst e1'); (try simp only [List.nil_append, List.cons_append, List.append_nil, List.append_assoc] at N'); (try k_sweep); (try dsimp only); (try k_fold)) | with_reducible (k_here; (with_reducible show wpAny _ _ (call (Value.ref 35) [Value.ref _, Value.str _ _, Value.int _ _, Value.str _ _] _) _ _ _); k_dflt (refine' MDoes.use ?k1 ?k2 ?k3 ?k4 ?k5 ?k6 ?k7 ?kP (add ?h0 ?h1 ?h2) ?kJ ?kO ?kd ?ku ?_; (case k1 => k_asm); (case k2 => k_asm); (case k3 => k_asm); (case k4 => k_asm); (case k5 => k_asm); (case k6 => first | exact rfl | assumption); (case k7 => first | exact rfl | assumption); (case kJ => assumption); (case kP => repeat (first | exact Pick.head | apply Pick.tail)); (case h0 => exact RepAt.up (by assumption) (by tb_start)); (case h1 => tb_start); (case h2 => simp only [List.length_append, List.length_cons, List.length_nil] at *; omega); (case kO => k_all); (case kd => (try dsimp only [Around.deeper]); omega); (case ku => (try dsimp only [Around.deeper]); omega)); (intro r' o' tl' h' tk' F' N' hf' ho' hP'); (obtain ⟨e1', hJ'⟩ := hP'); (subst e1'); (try simp only [List.nil_append, List.cons_append, List.append_nil, List.append_assoc] at N'); (try k_sweep); (try dsimp only); (try k_fold)) | with_reducible (k_here; (with_reducible show wpAny _ _ (call (Value.builtin _) [Value.ref _, _]) _ _ _); k_dflt (refine' append_led ?k1 ?k2 ?k3 ?z ?_; (case k1 => k_asm); (case k2 => k_asm); (case k3 => k_upd); (case z => omega)); intro h' F' N'; (try k_sweep)))) | with_reducible (k_here; (with_reducible show wpAny _ _ (compareOp CmpOp.Eq (Value.ref _) (Value.str _ _)) _ _ _); k_dflt (refine' eq_tup_str ?k1 ?k2 ?k3 ?_; (case k1 => k_asm); (case k2 => k_mem); (case k3 => (try dsimp only [Around.deeper]); omega))) | with_reducible (k_here; (with_reducible show wpAny _ _ (compareOp CmpOp.Eq (Value.ref _) (Value.str _ _)) _ _ _); k_dflt (refine' eq_tup_str ?k1 ?k2 ?k3 ?_; (case k1 => k_asm); (case k2 => k_mem); (case k3 => (try dsimp only [Around.deeper]); omega))) | with_reducible (k_here; (with_reducible show wpAny _ _ (subscriptTail _ _ (Value.ref _) (Value.int 0 _)) _ _ _); k_dflt (refine' item_head ?k1 ?k2 ?_ ?k3 ?k4; (case k1 => k_asm); (case k2 => k_mem); (case k3 => with_unfolding_all rfl); (case k4 => (intro _; with_unfolding_all rfl)))) | walk1 | ((refine' Hid.use ?hQ ?_); (case hQ => with_reducible assumption); (try dsimp only)) | dsimp only | (leave1; (try dsimp only)) | fail "no step"))
    refine' MDoes.fin hret ?F ?N o' tl ?S hf ⟨rfl, hO⟩
    case F => assumption
    case N => assumption
    case S => tb_start
open PySem PySem.W PySem.Calls PyProof.Rows PySem.Spec

/-- a list comprehension of two clauses -/
abbrev lc2 (elt t1 i1 t2 i2 : Expr) (scope : Scope) (pos : Pos) : Expr := .ListComp elt [⟨t1, i1, [], 0⟩, ⟨t2, i2, [], 0⟩] scope pos

theorem compTurn2_0 (elt t1 i1 t2 i2 : Expr) (scope : Scope) (pos : Pos) (it acc : Value) (env : Env) :
    compTurn (lc2 elt t1 i1 t2 i2 scope pos) 0 it acc env = (do
      standAt i1.pos
      match ← pyNext it with
      | none => pure (.done .next)
      | some v =>
        letOwnedTupleGo t1 it v
        assign t1 env v
        let mut ok := true
        for c in ([] : List Expr) do
          if ok then ok ← isTrue c env (eval c env)
        if ok then
          let x ← eval i2 env
          standAt i2.pos
          let x ← foldedSetIterable i2 env x
          let _ ← runOwn (.compStart (lc2 elt t1 i1 t2 i2 scope pos) (0 + 1) (← holding [x] (pyIter x)) acc env) env
        again (.compLoop (lc2 elt t1 i1 t2 i2 scope pos) 0 it acc env)) := by rfl

theorem compTurn2_1 (elt t1 i1 t2 i2 : Expr) (scope : Scope) (pos : Pos) (it acc : Value) (env : Env) :
    compTurn (lc2 elt t1 i1 t2 i2 scope pos) 1 it acc env = (do
      standAt i2.pos
      match ← pyNext it with
      | none => pure (.done .next)
      | some v =>
        letOwnedTupleGo t2 it v
        assign t2 env v
        let mut ok := true
        for c in ([] : List Expr) do
          if ok then ok ← isTrue c env (eval c env)
        if ok then
          (do let _ ← call (.builtin "list.append") [acc, ← eval elt env])
        again (.compLoop (lc2 elt t1 i1 t2 i2 scope pos) 1 it acc env)) := by rfl

section
variable {prog : Program} {w : World} {A : Around} {E : Value → Shared → Prop} {R : Result → Shared → Prop} {s : Shared}

theorem start1 {elt t1 i1 t2 i2 : Expr} {scope : Scope} {pos : Pos} {it acc : Value} {env : Env}
    (h0 : codeAny (model prog w) A (.compLoop (lc2 elt t1 i1 t2 i2 scope pos) 1 it acc env) R s)
    (h : wpAny (model prog w) A (pyIter it) (fun it' s' => codeAny (model prog w) A (.compLoop (lc2 elt t1 i1 t2 i2 scope pos) 1 it' acc env) R s') (notedBy (model prog w) A env fun x s' => R (.error x) s') s) :
    codeAny (model prog w) A (.compStart (lc2 elt t1 i1 t2 i2 scope pos) 1 it acc env) R s := by
  refine codeAny_of_tree ?_
  show wpAny _ _ ((compStart (lc2 elt t1 i1 t2 i2 scope pos) 1 it acc env).onRaise (fun x => do noteFrame x env; standAt theWindowsPlace)) _ _ s
  refine wpAny_notedAt ?_
  unfold compStart
  show wpAny _ _ (ask >>= _) _ _ s
  refine wpAny_bind (wpAny_askSetting (wpAny_ite ?_))
  split
  · first
      | exact wpAny_bind (wpAny_pure (wpAny_pure (And.intro rfl h0)))
      | exact wpAny_pure (And.intro rfl h0)
  · first
      | exact wpAny_bind (wpAny_rule (wpAny_bind (wpAny_standAt (wpAny_bind (wpAny_mono h (fun it' s' h' => wpAny_pure (And.intro rfl h')) fun _ _ x => x)))))
      | (refine wpAny_bind (wpAny_rule ?_); show wpAny _ _ (standAt i2.pos >>= _) _ _ s; exact wpAny_bind (wpAny_standAt (wpAny_bind (wpAny_mono h (fun it' s' h' => wpAny_pure (And.intro rfl h')) fun _ _ x => x))))

/-- the inner loop: what the list at l holds goes to the list at D -/
theorem inner_loop {t1 i1 i2 : Expr} {y : Str} {px pr : Pos} {scope : Scope} {pos : Pos} {I D l : Addr} {env : Env} {vs ys : List Value} {m : Str → Option Value} (hh : A.handled = none) (hk : env.scope.kind = .function) (hy : env.kindOf y = some .local) (hnd : (y == ("__debug__" : Str)) = false)
    (hID : I ≠ D) (hIC : I ≠ env.locals) (hDC : D ≠ env.locals) (hlI : l ≠ I) (hlD : l ≠ D) (hlC : l ≠ env.locals)
    (hit : s.heap.IsListIter I l 0) (hl : s.heap.IsList l vs.toArray) (hD : s.heap.PlainList D ys.toArray) (hC : s.heap.Ns env.locals m) (hz : ys.length + vs.length ≤ 1000000)
    (done : ∀ h' tk m', h'.PlainList D (ys ++ vs).toArray → h'.Ns env.locals m' → (∀ b o, b ≠ I → b ≠ D → b ≠ env.locals → s.heap.get? b = some o → h'.get? b = some o) → R (.ok .next) { s with heap := h', toks := tk }) :
    codeAny (model prog w) A (.compLoop (lc2 (.Name y pr) t1 i1 (.Name y px) i2 scope pos) 1 (.ref I) (.ref D) env) R s := by
  refine codeAny_loop rfl
    (fun k s' => ∃ h' tk i m', s' = { s with heap := h', toks := tk } ∧ h'.IsListIter I l i ∧ h'.IsList l vs.toArray ∧ h'.PlainList D (ys ++ vs.take i).toArray ∧ h'.Ns env.locals m' ∧ (∀ b o, b ≠ I → b ≠ D → b ≠ env.locals → s.heap.get? b = some o → h'.get? b = some o) ∧ i ≤ vs.length ∧ k = vs.length + 1 - i)
    (fun k s' hI => ?_) (vs.length + 1) ⟨s.heap, s.toks, 0, m, rfl, hit, hl, by simpa using hD, hC, fun _ _ _ _ _ e => e, Nat.zero_le _, rfl⟩
  obtain ⟨h', tk, i, m', rfl, hit', hl', hD', hC', hkeep, hi, rfl⟩ := hI
  show wpAny _ A ((compTurn (lc2 (.Name y pr) t1 i1 (.Name y px) i2 scope pos) 1 (.ref I) (.ref D) env).onRaise (fun x => do noteFrame x env; theTreesLotGoes x)) _ _ _
  refine wpAny_noted ?_
  rw [compTurn2_1]
  refine wpAny_bind (wpAny_standAt (wpAny_bind ?_))
  have hpp : (env.scope.kind == .class || (env.scope.kind == .module && env.locals != env.globals)) = false := by simp [hk]
  cases hv : vs.toArray[i]? with
  | none =>
    have hge : vs.length ≤ i := by simpa using hv
    refine wpAny_pyNext_list_end hh hit' hl' hv fun h₁ he₁ => ?_
    have e2 : vs.take i = vs := List.take_of_length_le hge
    rw [e2] at hD'
    exact wpAny_pure (done h₁ tk m' (hD'.at fun o e => he₁ D o (Ne.symm hID) e) (hC'.at' fun o e => he₁ _ o (Ne.symm hIC) e) fun b o b1 b2 b3 e => he₁ b o b1 (hkeep b o b1 b2 b3 e))
  | some v =>
    have hlt : i < vs.length := by simpa using (Array.getElem?_eq_some_iff.mp hv).1
    have hvl : vs[i]? = some v := by simpa using hv
    refine wpAny_pyNext_list_item hit' hl' hv fun h₁ hit₁ hs₁ => ?_
    refine wpAny_bind (show wpAny _ _ (pure ()) _ _ _ from wpAny_pure ?_)
    refine wpAny_bind (wpAny_assign_Name (wpAny_storeName_local hy (hC'.sameBut hs₁ (Ne.symm hIC)) (fun h₂ hn₂ hs₂ => ?_) hpp))
    refine wpAny_bind (wpAny_tests_nil ?_)
    refine wpAny_bind (wpAny_bind (wpAny_Name (wpAny_loadName_local (v := v) hk hy hn₂ (by simp) ?_) hnd))
    have hD₂ : h₂.PlainList D (ys ++ vs.take i).toArray := hD'.at fun o e => hs₂.extBut D o hDC (hs₁.extBut D o (Ne.symm hID) e)
    have hsz : (ys ++ vs.take i).toArray.size ≤ sizeLine := by
      rw [List.size_toArray, List.length_append, List.length_take, sizeLine_eq]; omega
    refine wpAny_bind (wpAny_list_append_plain (hsz := hsz) hD₂ fun h₃ hD₃ hs₃ => ?_)
    refine wpAny_pure (wpAny_pure ⟨rfl, vs.length + 1 - (i + 1), by omega, h₃, _, i + 1, _, rfl, ?_, ?_, ?_, hn₂.sameBut hs₃ (Ne.symm hDC), ?_, hlt, rfl⟩)
    · obtain ⟨o, e, a, b⟩ := hit₁
      exact ⟨o, hs₃.extBut I o hID (hs₂.extBut I o hIC e), a, b⟩
    · exact hl'.at fun o e => hs₃.extBut l o hlD (hs₂.extBut l o hlC (hs₁.extBut l o hlI e))
    · have e3 : (ys ++ vs.take i).toArray.push v = (ys ++ vs.take (i + 1)).toArray := by
        rw [List.take_add_one, hvl]; simp
      rw [← e3]; exact hD₃
    · exact fun b o b1 b2 b3 e => hs₃.extBut b o b2 (hs₂.extBut b o b3 (hs₁.extBut b o b1 (hkeep b o b1 b2 b3 e)))
end
open PySem PySem.W PySem.Calls PyProof.Rows PySem.Spec

section
variable {prog : Program} {w : World} {A : Around} {s : Shared} {env : Env} {h₀ : Heap}

/-- what a turn's second iterable is: a list, in the new ledger -/
def RowsEnd (h₀ : Heap) (L : Addr) (m : Str → Option Value) (own : Led) (J : List Value → Led → Prop) (ys : List Value) (s₁ : Shared) (r : Value) (s₂ : Shared) : Prop :=
  LedEnd h₀ L own (fun m' nx' => m' = m ∧ ∃ a vs k, r = .ref a ∧ (a, listOf vs.toArray k) ∈ nx' ∧ vs.length ≤ 100000 ∧ J (ys ++ vs) nx') s₁ s₂

theorem outer_loop {R : Result → Shared → Prop} {t1 i1 i2 : Expr} {y : Str} {px pr : Pos} {scope : Scope} {pos : Pos} {I D L : Addr} {cenv : Env} {fp wr : List Addr} {n : Nat} {P : Nat → Value → Prop} {St : Nat → Heap → Prop} {m mC : Str → Option Value}
    {news fix : Led} (J : Nat → List Value → Led → Prop) (G : Value → (Str → Option Value) → Prop) (x : Iter prog w A h₀ L news fix I fp wr n P St s.heap) (hh : A.handled = none) (hk : cenv.scope.kind = .function) (hy : cenv.kindOf y = some .local) (hnd : (y == ("__debug__" : Str)) = false)
    (F : Fr h₀ L s.heap m) (N : News h₀ L s.heap news) (hD : s.heap.PlainList D #[]) (hC : s.heap.Ns cenv.locals mC) (hDC : D ≠ cenv.locals) (hDL : D ≠ L) (hCL : cenv.locals ≠ L) (hDf : D ∉ fp) (hCf : cenv.locals ∉ fp) (hD0 : h₀.get? D = none) (hC0 : h₀.get? cenv.locals = none)
    (hDn : ∀ p ∈ news, p.1 ≠ D) (hCn : ∀ p ∈ news, p.1 ≠ cenv.locals)
    (hj : J 0 [] news) (hfix : ∀ i ys nx, J i ys nx → ∀ p ∈ fix, p ∈ nx) (hlen : ∀ i ys nx, J i ys nx → ys.length ≤ 100000)
    (hfold : ∀ x, foldedSetIterable i2 cenv x = pure x)
    (asg : ∀ i v ys nx (s' : Shared) m' (Q' : Unit → Shared → Prop) E', i < n → P i v → J i ys nx → News h₀ L s'.heap nx → s'.heap.Ns cenv.locals m' → St (i + 1) s'.heap →
      (∀ h' tk m'', h'.Ns cenv.locals m'' → G v m'' → (∀ b o, b ≠ cenv.locals → s'.heap.get? b = some o → h'.get? b = some o) → Q' () { s' with heap := h', toks := tk }) →
      wpAny (model prog w) A (letOwnedTupleGo t1 (.ref I) v) (fun _ s₂ => wpAny (model prog w) A (assign t1 cenv v) Q' E' s₂) E' s')
    (turn : ∀ i v ys nx own h tk mC E' oC, i < n → P i v → J i ys nx → (∀ p ∈ own, ∀ q ∈ nx, p.1 ≠ q.1) → Fr h₀ L h m → News h₀ L h (nx ++ own) → h.Ns cenv.locals mC → G v mC → (cenv.locals, oC) ∈ own →
      wpAny (model prog w) A (eval i2 cenv) (RowsEnd h₀ L m own (J (i + 1)) ys { s with heap := h, toks := tk }) E' { s with heap := h, toks := tk })
    (done : ∀ k ys nx h tk mC, J n ys nx → (∀ p ∈ nx, p.1 ≠ D) → Fr h₀ L h m → News h₀ L h ((D, listOf ys.toArray k) :: nx) → h.Ns cenv.locals mC → (∀ p ∈ nx, p.1 ≠ cenv.locals) → R (.ok .next) { s with heap := h, toks := tk }) :
    codeAny (model prog w) A (.compLoop (lc2 (.Name y pr) t1 i1 (.Name y px) i2 scope pos) 0 (.ref I) (.ref D) cenv) R s := by
  have hLw : L ∉ wr := fun h => x.nL (x.W.sub _ h)
  have hCw : cenv.locals ∉ wr := fun h => hCf (x.W.sub _ h)
  have hDw : D ∉ wr := fun h => hDf (x.W.sub _ h)
  have old : ∀ b o, h₀.get? b = some o → b ∉ wr := fun b o e hb => by rw [x.new b hb] at e; cases e
  refine codeAny_loop rfl
    (fun k s' => ∃ h' tk ys nx i mC, s' = { s with heap := h', toks := tk } ∧ St i h' ∧ Fr h₀ L h' m ∧ News h₀ L h' nx ∧ (∀ p ∈ nx, p.1 ∉ wr ∧ p.1 ≠ D ∧ p.1 ≠ cenv.locals) ∧ h'.PlainList D ys.toArray ∧ h'.Ns cenv.locals mC ∧ J i ys nx ∧ i ≤ n ∧ k = n + 1 - i) (fun k s' hI => ?_) (n + 1)
    ⟨s.heap, s.toks, [], news, 0, mC, rfl, x.st, F, N, fun p hp => ⟨x.off p hp, hDn p hp, hCn p hp⟩, hD, hC, hj, Nat.zero_le _, rfl⟩
  obtain ⟨h', tk, ys, nx, i, mC, rfl, hst', F', N', hoff, hD', hC', hJ, hi, rfl⟩ := hI
  show wpAny _ A ((compTurn (lc2 (.Name y pr) t1 i1 (.Name y px) i2 scope pos) 0 (.ref I) (.ref D) cenv).onRaise (fun x => do noteFrame x cenv; theTreesLotGoes x)) _ _ _
  refine wpAny_noted ?_
  rw [compTurn2_0]
  refine wpAny_bind (wpAny_standAt (wpAny_bind ?_))
  have next : ∀ h₁ : Heap, (∀ b o, b ∉ wr → h'.get? b = some o → h₁.get? b = some o) → Fr h₀ L h₁ m ∧ News h₀ L h₁ nx := fun h₁ hk₁ =>
    ⟨⟨F'.ns.at' fun o e => hk₁ _ o hLw e, fun b o e => hk₁ b o (old b o e) (F'.keep b o e), F'.above⟩, fun p hp => ⟨hk₁ _ _ (hoff p hp).1 (N' p hp).1, (N' p hp).2⟩⟩
  by_cases hlt : i < n
  · refine x.W.item i _ _ _ hlt hst' fun v h₁ tk₁ hP hst₁ hk₁ => ?_
    obtain ⟨F₁, N₁⟩ := next h₁ hk₁
    refine wpAny_bind (wpAny_mono (asg i v ys nx _ mC _ _ hlt hP hJ N₁ (hC'.at' fun o e => hk₁ _ o hCw e) hst₁ fun h₂ tk₂ m₂ hn₂ hG hs₂ => ?_) (fun _ s₂ h₂ => wpAny_bind h₂) fun _ _ e => e)
    refine wpAny_bind (wpAny_tests_nil ?_)
    have F₂ : Fr h₀ L h₂ m := ⟨F₁.ns.at' fun o e => hs₂ _ o (Ne.symm hCL) e, fun b o e => hs₂ b o (fun q => by rw [q, hC0] at e; cases e) (F₁.keep b o e), F₁.above⟩
    have N₂ : News h₀ L h₂ nx := fun p hp => ⟨hs₂ _ _ (hoff p hp).2.2 (N₁ p hp).1, (N₁ p hp).2⟩
    have st₂ : St (i + 1) h₂ := x.W.frame _ _ _ hst₁ fun b hb o e => hs₂ b o (fun h => hCf (h ▸ hb)) e
    have hD₂ : h₂.PlainList D ys.toArray := hD'.at fun o e => hs₂ D o hDC (hk₁ _ o hDw e)
    obtain ⟨kD, eD⟩ := id hD₂
    obtain ⟨oC, _, _, eC, _⟩ := id hn₂
    have NO : News h₀ L h₂ ((D, listOf ys.toArray kD) :: (cenv.locals, oC) :: ownOf h₀ wr h₂) := by
      intro p hp
      rcases List.mem_cons.mp hp with rfl | hp
      · exact ⟨eD, hDL, hD0⟩
      · rcases List.mem_cons.mp hp with rfl | hp
        · exact ⟨eC, hCL, hC0⟩
        · exact news_ownOf hLw p hp
    have hoff₂ : ∀ p ∈ (D, listOf ys.toArray kD) :: (cenv.locals, oC) :: ownOf h₀ wr h₂, ∀ q ∈ nx, p.1 ≠ q.1 := by
      intro p hp q hq e
      rcases List.mem_cons.mp hp with rfl | hp
      · exact (hoff q hq).2.1 e.symm
      · rcases List.mem_cons.mp hp with rfl | hp
        · exact (hoff q hq).2.2 e.symm
        · exact (hoff q hq).1 (e ▸ ownOf_sub p hp)
    refine wpAny_bind (wpAny_mono (turn i v ys nx _ h₂ tk₂ m₂ _ oC hlt hP hJ hoff₂ F₂ (N₂.append NO) hn₂ hG (.tail _ (.head _))) (fun r s₃ h₃ => ?_) fun _ _ e => e)
    obtain ⟨h₃', tk₃, m₃, led, nx₂, rfl, F₃, N₃, hn, ho, hof, rfl, a, vs, kk, rfl, hma, hvz, hJ₃⟩ := h₃
    have e3 := (N₃ _ (ho _ (.head _))).1
    have c3 := (N₃ _ (ho _ (.tail _ (.head _)))).1
    have a3 := (N₃ _ (hn _ hma)).1
    have st₃ : St (i + 1) h₃' := x.step st₂ F₂ F₃ (fun p hp => N₂ p (hfix _ _ _ hJ p hp)) N₃ (fun p hp => hn p (hfix _ _ _ hJ₃ p hp)) fun p hp => ho p (.tail _ (.tail _ hp))
    have off₃ : ∀ p ∈ nx₂, p.1 ∉ wr ∧ p.1 ≠ D ∧ p.1 ≠ cenv.locals := by
      refine fun p hp => ⟨fun hb => ?_, fun e => hof _ (.head _) p hp e.symm, fun e => hof _ (.tail _ (.head _)) p hp e.symm⟩
      obtain ⟨o, e⟩ := x.has _ _ st₂ p.1 hb
      exact hof _ (.tail _ (.tail _ (mem_ownOf hb (x.new _ hb) e))) p hp rfl
    have hCn₃ : h₃'.Ns cenv.locals m₂ := hn₂.at' fun o e => by rw [eC] at e; cases e; exact c3
    refine wpAny_bind (wpAny_standAt (wpAny_bind (wpAny_of_eq (hfold _) ?_)))
    refine wpAny_bind (wpAny_holding (wpAny_pyIter_list (items := vs.toArray) ⟨_, a3, rfl, kk, rfl⟩ ?_))
    refine wpAny_bind (wpAny_runOwn ?_ (by intro h; cases h))
    have hlen₁ := hlen _ _ _ hJ
    have lt : ∀ b o, h₃'.get? b = some o → b ≠ h₃'.objs.size := fun b o e => Nat.ne_of_lt (Heap.lt_size e)
    have up : ∀ b o, h₃'.get? b = some o → (h₃'.push { cls := .type "list_iterator", data := .fields #[.ref a, .int 0 0] }).get? b = some o := fun b o e => Heap.get?_push_of_some _ e
    have hit : (h₃'.push { cls := .type "list_iterator", data := .fields #[.ref a, .int 0 0] }).IsListIter h₃'.objs.size a 0 := ⟨_, Heap.get?_push_size _ rfl, rfl, rfl⟩
    have loop : ∀ (R' : Result → Shared → Prop) (s₅ : Shared), s₅ = { s with heap := h₃'.push { cls := .type "list_iterator", data := .fields #[.ref a, .int 0 0] }, toks := tk₃ } →
        (∀ h₅ tk₅ m₅, h₅.PlainList D (ys ++ vs).toArray → h₅.Ns cenv.locals m₅ → (∀ b o, b ≠ D → b ≠ cenv.locals → h₃'.get? b = some o → h₅.get? b = some o) → R' (.ok .next) { s with heap := h₅, toks := tk₅ }) →
        codeAny (model prog w) A (.compLoop (lc2 (.Name y pr) t1 i1 (.Name y px) i2 scope pos) 1 (.ref h₃'.objs.size) (.ref D) cenv) R' s₅ := by
      rintro R' s₅ rfl hR'
      refine inner_loop hh hk hy hnd (Ne.symm (lt _ _ e3)) (Ne.symm (lt _ _ c3)) hDC (lt _ _ a3) (off₃ _ hma).2.1 (off₃ _ hma).2.2 hit ⟨_, up _ _ a3, rfl, kk, rfl⟩ ⟨kD, up _ _ e3⟩ (hCn₃.at' fun o e => up _ o e) (by omega) fun h₅ tk₅ m₅ p1 p2 p3 => ?_
      exact hR' h₅ tk₅ m₅ p1 p2 fun b o b1 b2 e => p3 b o (lt _ _ e) b1 b2 (up _ _ e)
    have fin : ∀ h₅ tk₅ m₅, h₅.PlainList D (ys ++ vs).toArray → h₅.Ns cenv.locals m₅ → (∀ b o, b ≠ D → b ≠ cenv.locals → h₃'.get? b = some o → h₅.get? b = some o) →
        ∃ m_1, m_1 < n + 1 - i ∧ ∃ h' tk ys nx i mC, ({ s with heap := h₅, toks := tk₅ } : Shared) = { s with heap := h', toks := tk } ∧ St i h' ∧ Fr h₀ L h' m₃ ∧ News h₀ L h' nx ∧ (∀ p ∈ nx, p.1 ∉ wr ∧ p.1 ≠ D ∧ p.1 ≠ cenv.locals) ∧ h'.PlainList D ys.toArray ∧ h'.Ns cenv.locals mC ∧ J i ys nx ∧ i ≤ n ∧ m_1 = n + 1 - i := by
      intro h₅ tk₅ m₅ p1 p2 p3
      refine ⟨n + 1 - (i + 1), by omega, h₅, tk₅, ys ++ vs, nx₂, i + 1, m₅, rfl, ?_, ?_, fun p hp => ⟨p3 _ _ (off₃ p hp).2.1 (off₃ p hp).2.2 (N₃ p (hn p hp)).1, (N₃ p (hn p hp)).2⟩, off₃, p1, p2, hJ₃, hlt, rfl⟩
      · exact x.W.frame _ _ _ st₃ fun b hb o e => p3 b o (fun h => hDf (h ▸ hb)) (fun h => hCf (h ▸ hb)) e
      · exact ⟨F₃.ns.at' fun o e => p3 _ o (Ne.symm hDL) (Ne.symm hCL) e, fun b o e => p3 b o (fun q => by rw [q, hD0] at e; cases e) (fun q => by rw [q, hC0] at e; cases e) (F₃.keep b o e), F₃.above⟩
    have R0 : ∀ (R' : Result → Shared → Prop), (∀ h₅ tk₅ m₅, h₅.PlainList D (ys ++ vs).toArray → h₅.Ns cenv.locals m₅ → (∀ b o, b ≠ D → b ≠ cenv.locals → h₃'.get? b = some o → h₅.get? b = some o) → R' (.ok .next) { s with heap := h₅, toks := tk₅ }) →
        codeAny (model prog w) A (.compStart (lc2 (.Name y pr) t1 i1 (.Name y px) i2 scope pos) 1 (.ref h₃'.objs.size) (.ref D) cenv) R' { s with heap := h₃'.push { cls := .type "list_iterator", data := .fields #[.ref a, .int 0 0] }, toks := tk₃ } := fun R' hR' =>
      start1 (loop R' _ rfl hR') (wpAny_pyIter_listiter hit (loop R' _ rfl hR'))
    exact R0 _ fun h₅ tk₅ m₅ p1 p2 p3 => wpAny_pure ⟨rfl, fin h₅ tk₅ m₅ p1 p2 p3⟩
  · have hin : i = n := by omega
    subst hin
    refine x.W.done _ _ _ hst' fun h₁ tk₁ hk₁ => ?_
    obtain ⟨F₁, N₁⟩ := next h₁ hk₁
    obtain ⟨kD, eD⟩ := hD'.at fun o e => hk₁ _ o hDw e
    refine wpAny_pure (done kD ys nx h₁ tk₁ mC hJ (fun p hp => (hoff p hp).2.1) F₁ (fun p hp => ?_) (hC'.at' fun o e => hk₁ _ o hCw e) (fun p hp => (hoff p hp).2.2))
    rcases List.mem_cons.mp hp with rfl | hp
    · exact ⟨eD, hDL, hD0⟩
    · exact N₁ p hp
end
open PySem PySem.W PySem.Calls PyProof.Rows PySem.Spec

theorem Above.cons {r t : Led} {D : Addr} {o : Obj} (h : AllLt D r) (k : Above r t) : Above r ((D, o) :: t) := fun q hq p hp => by
  rcases List.mem_cons.mp hp with rfl | hp
  · exact ktn_ltOf h q hq
  · exact k q hq p hp
theorem allLt_of {D : Addr} : ∀ {a : Led}, (∀ q ∈ a, @LT.lt Nat _ q.1 D) → AllLt D a
  | [], _ => trivial
  | _ :: _, h => ⟨h _ (.head _), allLt_of fun q hq => h q (.tail _ hq)⟩

/-- a call that makes a new list of rows -/
def LPost (rows : Rws) (r : Value) (tl : Led) : Prop := ∃ a vs n tl2, r = .ref a ∧ tl = (a, listOf vs.toArray n) :: tl2 ∧ Off a tl2 ∧ RowsIn tl2 vs rows
abbrev LDoes (w : World) (f : Addr) (cost : Nat) (args : List Value) (rest : Led) (rows : Rws) : Prop := PDoes w f cost args rest (LPost rows)
theorem PDoes.weak {w : World} {f : Addr} {c c' : Nat} {args : List Value} {rest : Led} {Post : Value → Led → Prop} (h : PDoes w f c args rest Post) (hc : c ≤ c') : PDoes w f c' args rest Post :=
  fun dp un gd env outer A₀ base h₀ L m mean mg mb s Q E HA hd hu hret => h dp un gd env outer A₀ base h₀ L m mean mg mb s Q E HA (by omega) (by omega) hret

theorem LDoes.use {w : World} {f : Addr} {cost : Nat} {args : List Value} {rest : Led} {rows : Rws}
    {dp un : Nat} {gd : Option (List Code)} {env : Env} {outer : List Env} {A₀ : Around} {base h₀ : Heap} {L : Addr} {m : Str → Option Value} {mean : ExcName → Option Value} {mg mb : Str → Option Value} {s : Shared} {Q E : Value → Shared → Prop}
    (B : Below A₀ base outer h₀) (F : Fr h₀ L s.heap m) (X : (hdS.heap_1 w.params).In h₀) (N : News h₀ L s.heap rest) (T : Top hdS.view_1 (looseW hdS.view_1 [Str.ofString "check_target", Str.ofString "check_target_name"]) mean mg mb h₀)
    (fr : env.frame = some L) (kd : env.scope.kind = .function) (D : LDoes w f cost args rest rows) (hdp : dp + cost < recursionLimit) (hun : un + 8 * cost < cLine)
    (ret : ∀ a vs n tl h' tk', Fr h₀ L h' m → News h₀ L h' ((a, listOf vs.toArray n) :: (rest ++ tl)) → AllLt a rest → Off a rest → Off a tl → Above rest tl → RowsIn tl vs rows → Q (.ref a) { s with heap := h', toks := tk' }) :
    wpAny (model PySem.Challenge.rw_on0122_01.row.prog w) { handled := none, depth := dp, frames := some (env :: outer), guards := gd, units := un } (call (.ref f) args) Q E s :=
  PDoes.use B F X N T fr kd D hdp hun fun r tl h' tk' F' N' hf ⟨a, vs, n, tl2, e1, e2, ho, hr⟩ => by
    subst e1 e2
    have hlt : ∀ q ∈ rest, @LT.lt Nat _ q.1 a := fun q hq => hf q hq _ (.head _)
    refine ret a vs n tl2 h' tk' F' (News.sub N' fun p hp => ?_) (allLt_of hlt) (fun p hp => Nat.ne_of_lt (hlt p hp)) ho (fun q hq p hp => hf q hq p (.tail _ hp)) hr
    rcases List.mem_cons.mp hp with rfl | hp
    · exact List.mem_append.mpr (.inr (.head _))
    · exact (List.mem_append.mp hp).elim (fun h => List.mem_append.mpr (.inl h)) fun h => List.mem_append.mpr (.inr (.tail _ h))

theorem LDoes.fin {rest led tl : Led} {rows : Rws} {h₀ h' : Heap} {L D : Addr} {m : Str → Option Value} {s : Shared} {Q : Value → Shared → Prop} {tk' : Nat} {vs : List Value} {k : Nat}
    (hret : ∀ r post h' tk', Fr h₀ L h' m → News h₀ L h' post → (∃ tl, post = rest ++ tl ∧ (∀ q ∈ rest, ∀ p ∈ tl, @LT.lt Nat _ q.1 p.1) ∧ LPost rows r tl) → Q r { s with heap := h', toks := tk' })
    (F' : Fr h₀ L h' m) (N' : News h₀ L h' led) (hm : (D, listOf vs.toArray k) ∈ led) (hs : ∀ p ∈ rest ++ tl, p ∈ led) (hD : AllLt D rest) (ho : Off D tl) (hf : Above rest tl) (hr : RowsIn tl vs rows) : Q (.ref D) { s with heap := h', toks := tk' } :=
  PDoes.fin hret F' N' ((D, listOf vs.toArray k) :: tl) (fun p hp => by
    rcases List.mem_append.mp hp with hp | hp
    · exact hs p (List.mem_append.mpr (.inl hp))
    · rcases List.mem_cons.mp hp with rfl | hp
      · exact hm
      · exact hs p (List.mem_append.mpr (.inr hp))) (Above.cons hD hf) ⟨D, vs, k, tl, rfl, rfl, ho, hr⟩

section
variable {prog : Program} {w : World} {A : Around} {s : Shared} {env : Env} {h₀ : Heap}

/-- the turn's second iterable: a fresh list of rows -/
def RowsTurn (h₀ : Heap) (L : Addr) (m : Str → Option Value) (own : Led) (rows : Rws) (s₁ : Shared) (r : Value) (s₃ : Shared) : Prop :=
  ∃ h' tk' a vs n tl2, s₃ = { s₁ with heap := h', toks := tk' } ∧ Fr h₀ L h' m ∧ News h₀ L h' ((a, listOf vs.toArray n) :: (own ++ tl2)) ∧ r = .ref a ∧ (∀ q ∈ own, @LT.lt Nat _ q.1 a) ∧ Above own tl2 ∧ RowsIn tl2 vs rows
theorem RowsTurn.intro {h' : Heap} {L : Addr} {m : Str → Option Value} {own led tl2 : Led} {rows : Rws} {s₁ : Shared} {a : Addr} {vs : List Value} {n tk' : Nat} (F : Fr h₀ L h' m) (N : News h₀ L h' led) (hm : (a, listOf vs.toArray n) ∈ led) (hs : ∀ p ∈ own ++ tl2, p ∈ led) (hl : AllLt a own) (hab : Above own tl2) (hr : RowsIn tl2 vs rows) :
    RowsTurn h₀ L m own rows s₁ (.ref a) { s₁ with heap := h', toks := tk' } :=
  ⟨h', tk', a, vs, n, tl2, rfl, F, News.sub N fun p hp => (List.mem_cons.mp hp).elim (fun e => e ▸ hm) fun h => hs p h, rfl, fun q hq => ktn_ltOf hl q hq, hab, hr⟩

/-- the target's assignment in the block -/
def Asg (prog : Program) (w : World) (A : Around) (h₀ : Heap) (L : Addr) (cenv : Env) (t1 : Expr) (I : Addr) (vs : List Value) (nb : Led) (St : Nat → Heap → Prop) (G : Value → (Str → Option Value) → Prop) : Prop :=
  ∀ (i : Nat) (v : Value) (s' : Shared) m' (Q' : Unit → Shared → Prop) E', vs[i]? = some v → News h₀ L s'.heap nb → s'.heap.Ns cenv.locals m' → St (i + 1) s'.heap →
    (∀ h' tk m'', h'.Ns cenv.locals m'' → G v m'' → (∀ b o, b ≠ cenv.locals → s'.heap.get? b = some o → h'.get? b = some o) → Q' () { s' with heap := h', toks := tk }) →
    wpAny (model prog w) A (letOwnedTupleGo t1 (.ref I) v) (fun _ s₂ => wpAny (model prog w) A (assign t1 cenv v) Q' E' s₂) E' s'

/-- what stands at the comprehension's head -/
def Comp2At (prog : Program) (w : World) (A : Around) (h₀ : Heap) (L : Addr) (env : Env) (scope : Scope) (cl : List (Str × Addr)) (t1 i2 : Expr) (Q : Value → Shared → Prop) (it : Value) (s₂ : Shared) : Prop :=
  ∃ (I : Addr) (fp wr : List Addr) (vs : List Value) (rss : List Rws) (St : Nat → Heap → Prop) (m : Str → Option Value) (nb fix : Led) (G : Value → (Str → Option Value) → Prop) (Rel : Value → Rws → Prop),
    it = .ref I ∧ A.handled = none ∧ Iter prog w A h₀ L nb fix I fp wr vs.length (fun i v => vs[i]? = some v) St s₂.heap ∧ Fr h₀ L s₂.heap m ∧ News h₀ L s₂.heap nb ∧ (∀ p ∈ fix, p ∈ nb) ∧ Paired Rel vs rss ∧ rss.flatten.length ≤ 90000 ∧
    (∀ C, Asg prog w A h₀ L (compEnvC scope cl C env) t1 I vs nb St G) ∧
    (∀ (i : Nat) (v : Value) rows tl own h tk mC E' C oC, vs[i]? = some v → Rel v rows → rows.length ≤ 90000 → Fr h₀ L h m → News h₀ L h ((C, oC) :: (nb ++ (tl ++ own))) → LCg.NsObj oC mC → G v mC →
      wpAny (model prog w) A (eval i2 (compEnvC scope cl C env)) (RowsTurn h₀ L m ((C, oC) :: (nb ++ (tl ++ own))) rows { s₂ with heap := h, toks := tk }) E' { s₂ with heap := h, toks := tk }) ∧
    (∀ D k ys tl h tk, RowsIn tl ys rss.flatten → AllLt D nb → Off D tl → Above nb tl → Fr h₀ L h m → News h₀ L h ((D, listOf ys.toArray k) :: (nb ++ tl)) → Q (.ref D) { s₂ with heap := h, toks := tk })

theorem comp2_block {t1 i1 i2 : Expr} {y : Str} {px pr : Pos} {scope : Scope} {cl : List (Str × Addr)} {pos : Pos} {s₂ : Shared} {L : Addr} {it : Value} {E : Value → Shared → Prop} {RR : Value → Addr → Result → Shared → Prop} {Q : Value → Shared → Prop}
    (hcell : ∀ z ∈ scope.names, z.2 ≠ .cell) (hkind : scope.kind = .function) (hx : scope.names.lookup y = some .local) (hnd : (y == ("__debug__" : Str)) = false) (hfold : ∀ C x, foldedSetIterable i2 (compEnvC scope cl C env) x = pure x)
    (h : Comp2At prog w A h₀ L env scope cl t1 i2 Q it s₂)
    (hRR : ∀ D C h' tk mC, D ≠ C → h'.Ns C mC → h₀.get? C = none → (∀ h'', Heap.SameBut C h' h'' → Q (.ref D) { s₂ with heap := h'', toks := tk }) → RR (.ref D) C (.ok .next) { s₂ with heap := h', toks := tk }) :
    wpAny (model prog w) A (newList []) (fun acc s₃ => wpAny (model prog w) A (newFunctionEnv scope env.globals cl [] env.qual none .none (some env)) (fun cenv s₄ =>
      codeAny (model prog w) A (.compStart (lc2 (.Name y pr) t1 i1 (.Name y px) i2 scope pos) 0 it acc { cenv with scope := relabel scope env }) (RR acc cenv.locals) s₄) E s₃) E s₂ := by
  obtain ⟨I, fp, wr, vs, rss, St, m, nb, fix, G, Rel, rfl, hh, x, F, N, hfx, hp, hlen, hasg, turn, done⟩ := h
  refine wpAny_newObj_type (wpAny_newFunctionEnv hcell (by intro y hy; simp at hy) (fun h₁ hns₁ hsb₁ => ?_) hkind)
  dsimp only at hns₁ hsb₁ ⊢
  generalize hH2 : s₂.heap.push { cls := .type "list", dict := none, data := .seq ([] : List Value).toArray } = H2 at hns₁ hsb₁ ⊢
  have hC : H2.objs.size = s₂.heap.objs.size + 1 := by rw [← hH2, Heap.size_push]
  have hDC : s₂.heap.objs.size ≠ H2.objs.size := by rw [hC]; exact Nat.ne_of_lt (Nat.lt_succ_self _)
  have below : ∀ b, b < s₂.heap.objs.size → b ≠ H2.objs.size ∧ b ≠ s₂.heap.objs.size := fun b hb => ⟨by rw [hC]; exact Nat.ne_of_lt (Nat.lt_succ_of_lt hb), Nat.ne_of_lt hb⟩
  have old : ∀ b o, s₂.heap.get? b = some o → h₁.get? b = some o := fun b o e => hsb₁.extBut b o (below b (Heap.lt_size e)).1 (Heap.get?_push_of_some _ (hH2 ▸ Heap.get?_push_of_some _ e))
  have hacc : h₁.PlainList s₂.heap.objs.size #[] := ⟨_, hsb₁.extBut _ _ hDC (Heap.get?_push_of_some _ (hH2 ▸ Heap.get?_push_size _ rfl))⟩
  have fresh : ∀ a, s₂.heap.objs.size ≤ a → h₀.get? a = none := fun a ha => by
    cases e : h₀.get? a with
    | none => rfl
    | some o' => exact absurd (Heap.lt_size (F.keep _ _ e)) (Nat.not_lt.mpr ha)
  have hCle : s₂.heap.objs.size ≤ H2.objs.size := by rw [hC]; exact Nat.le_succ _
  have F₁ : Fr h₀ L h₁ m := ⟨F.ns.at' fun o e => old _ o e, fun b o e => old b o (F.keep b o e), F.above⟩
  have N₁ : News h₀ L h₁ nb := fun p hp => ⟨old _ _ (N p hp).1, (N p hp).2⟩
  have x₁ : Iter prog w A h₀ L nb fix I fp wr vs.length (fun i v => vs[i]? = some v) St h₁ := { x with
    st := x.W.frame _ _ _ x.st fun b _ o e => old b o e
    lt := fun b hb => by
      have h1 := x.lt b hb
      have h2 : H2.objs.size < h₁.objs.size := hns₁.lt
      exact Nat.lt_trans (Nat.lt_of_lt_of_le h1 hCle) h2 }
  have loop : ∀ s₃ : Shared, s₃ = { s₂ with heap := h₁, toks := s₂.toks + ([] : List (Str × Value)).length } →
      codeAny (model prog w) A (.compLoop (lc2 (.Name y pr) t1 i1 (.Name y px) i2 scope pos) 0 (.ref I) (.ref s₂.heap.objs.size) (compEnvC scope cl H2.objs.size env)) (RR (.ref s₂.heap.objs.size) H2.objs.size) s₃ := by
    rintro s₃ rfl
    have hlt := x.lt
    have hL : L < s₂.heap.objs.size := F.ns.lt
    refine outer_loop (L := L) (cenv := compEnvC scope cl H2.objs.size env) (m := m) (mC := _) (fun i ys nx => ∃ tl, nx = nb ++ tl ∧ Above nb tl ∧ RowsIn tl ys (rss.take i).flatten) G x₁ hh (by simp [compEnvC, relabel, hkind]) (lookup_relabel_local hx) hnd F₁ N₁ hacc hns₁ hDC (Nat.ne_of_gt hL) (Nat.ne_of_gt (Nat.lt_of_lt_of_le hL hCle))
      (fun hm => Nat.lt_irrefl _ (hlt _ hm)) (fun hm => Nat.lt_irrefl _ (Nat.lt_of_lt_of_le (hlt _ hm) hCle)) (fresh _ (Nat.le_refl _)) (fresh _ hCle)
      (fun p hp => Nat.ne_of_lt (Heap.lt_size (N p hp).1)) (fun p hp => Nat.ne_of_lt (Nat.lt_of_lt_of_le (Heap.lt_size (N p hp).1) hCle)) ⟨[], by rw [List.append_nil], above_nil, .nil⟩ ?_ ?_ (hfold _) ?_ ?_ ?_
    · rintro i ys nx ⟨tl, rfl, _⟩ p hp'
      exact List.mem_append.mpr (.inl (hfx p hp'))
    · rintro i ys nx ⟨tl, rfl, _, hr⟩
      rw [Paired.length hr]
      exact Nat.le_trans (flat_le i) (Nat.le_trans hlen (by decide))
    · rintro i v ys nx s' m' Q' E' hi hv ⟨tl, rfl, _⟩ N' hn hst hq
      exact hasg H2.objs.size i v s' m' Q' E' hv (News.sub N' fun p hp => List.mem_append.mpr (.inl hp)) hn hst hq
    · rintro i v ys nx own h tk mC E' oC hi hv ⟨tl, rfl, hab, hr⟩ hown F' N' hn hG hmC
      obtain ⟨rows, hrs, hrel⟩ := paired_get hp i v hv
      have hNs : LCg.NsObj oC mC := by
        obtain ⟨o, e, k⟩ := LCg.ns_obj hn
        have e2 := (N' _ (List.mem_append.mpr (.inr hmC))).1
        have e3 : oC = o := Option.some.inj (e2.symm.trans e)
        rw [e3]; exact k
      have hfl := flat_take hrs
      have hle := flat_le (rss := rss) (i + 1)
      rw [hfl, List.length_append] at hle
      refine wpAny_mono (turn i v rows tl own h tk mC E' H2.objs.size oC hv hrel (by omega) F' (News.sub N' fun p hp => ?_) hNs hG) (fun r s₃ h₃ => ?_) fun _ _ e => e
      · rcases List.mem_cons.mp hp with rfl | hp
        · exact List.mem_append.mpr (.inr hmC)
        · rcases List.mem_append.mp hp with hp | hp
          · exact List.mem_append.mpr (.inl (List.mem_append.mpr (.inl hp)))
          · rcases List.mem_append.mp hp with hp | hp
            · exact List.mem_append.mpr (.inl (List.mem_append.mpr (.inr hp)))
            · exact List.mem_append.mpr (.inr hp)
      · obtain ⟨h', tk', a, vs', n, tl2, rfl, F₃, N₃, rfl, ha, hab₃, hr₃⟩ := h₃
        have inb : ∀ p ∈ nb, p ∈ (H2.objs.size, oC) :: (nb ++ (tl ++ own)) := fun p hp => .tail _ (List.mem_append.mpr (.inl hp))
        have itl : ∀ p ∈ tl, p ∈ (H2.objs.size, oC) :: (nb ++ (tl ++ own)) := fun p hp => .tail _ (List.mem_append.mpr (.inr (List.mem_append.mpr (.inl hp))))
        have iow : ∀ p ∈ own, p ∈ (H2.objs.size, oC) :: (nb ++ (tl ++ own)) := fun p hp => .tail _ (List.mem_append.mpr (.inr (List.mem_append.mpr (.inr hp))))
        refine ⟨h', tk', m, _, nb ++ (tl ++ (a, listOf vs'.toArray n) :: tl2), rfl, F₃, N₃, ?_, ?_, ?_, rfl, a, vs', n, rfl, List.mem_append.mpr (.inr (List.mem_append.mpr (.inr (.head _)))), ?_, tl ++ (a, listOf vs'.toArray n) :: tl2, rfl, ?_, ?_⟩
        · intro p hp
          rcases List.mem_append.mp hp with hp | hp
          · exact .tail _ (List.mem_append.mpr (.inl (inb p hp)))
          · rcases List.mem_append.mp hp with hp | hp
            · exact .tail _ (List.mem_append.mpr (.inl (itl p hp)))
            · rcases List.mem_cons.mp hp with rfl | hp
              · exact .head _
              · exact .tail _ (List.mem_append.mpr (.inr hp))
        · intro p hp
          exact .tail _ (List.mem_append.mpr (.inl (iow p hp)))
        · intro p hp q hq
          rcases List.mem_append.mp hq with hq | hq
          · exact hown p hp q (List.mem_append.mpr (.inl hq))
          · rcases List.mem_append.mp hq with hq | hq
            · exact hown p hp q (List.mem_append.mpr (.inr hq))
            · rcases List.mem_cons.mp hq with rfl | hq
              · exact Nat.ne_of_lt (ha p (iow p hp))
              · exact Nat.ne_of_lt (hab₃ p (iow p hp) q hq)
        · rw [Paired.length hr₃]; omega
        · refine hab.append fun q hq p hp => ?_
          rcases List.mem_cons.mp hp with rfl | hp
          · exact ha q (inb q hq)
          · exact hab₃ q (inb q hq) p hp
        · rw [hfl]
          exact paired_append (hr.mono fun p hp => List.mem_append.mpr (.inl hp)) (hr₃.mono fun p hp => List.mem_append.mpr (.inr (.tail _ hp)))
    · rintro k ys nx h tk mC ⟨tl, rfl, hab, hr⟩ hnD F' N' hC' hnC
      rw [List.take_of_length_le (by rw [Paired.length hp]; exact Nat.le_refl _)] at hr
      refine hRR _ _ _ _ mC hDC hC' (fresh _ hCle) fun h'' hs'' => ?_
      refine done _ k ys tl h'' _ hr (allLt_of fun q hq => Heap.lt_size (N q hq).1) (fun p hp => hnD p (List.mem_append.mpr (.inr hp))) hab (F'.change hs'' (Nat.ne_of_gt (Nat.lt_of_lt_of_le hL hCle)) (fresh _ hCle)) fun p hp => ⟨(hs''.2 _ ?_).trans (N' p hp).1, (N' p hp).2⟩
      rcases List.mem_cons.mp hp with rfl | hp
      · exact hDC
      · exact hnC p hp
  exact codeAny_compStart_list (loop _ rfl) (x.W.self 0 _ _ _ x₁.st (loop _ rfl))

theorem comp2_led {L : Addr} {m : Str → Option Value} {t1 i1 i2 : Expr} {y : Str} {px pr : Pos} {scope : Scope} {cl : List (Str × Addr)} {pos : Pos} {Q E : Value → Shared → Prop} (_F : Fr h₀ L s.heap m)
    (hclos : closureFor scope env = pure cl) (hcell : ∀ z ∈ scope.names, z.2 ≠ .cell) (hkind : scope.kind = .function)
    (hnames : ∀ z ∈ scope.names, z.2 = .local → scope.names.lookup z.1 = some .local) (hx : scope.names.lookup y = some .local) (hnd : (y == ("__debug__" : Str)) = false)
    (h : wpAny (model prog w) A (eval i1 env) (fun xv s₁ => wpAny (model prog w) A (pyIter xv) (fun it s₂ => Comp2At prog w A h₀ L env scope cl t1 i2 Q it s₂) E s₁) E s)
    (hs : ∀ x, foldedSetIterable i1 env x = pure x) (hfold : ∀ C x, foldedSetIterable i2 (compEnvC scope cl C env) x = pure x) :
    wpAny (model prog w) A (eval (lc2 (.Name y pr) t1 i1 (.Name y px) i2 scope pos) env) Q E s := by
  rw [eval_ListComp]
  refine wpAny_comprehension_free (use := none) rfl hs hclos hkind hnames (wpAny_mono h (fun xv s₁ h₁ => wpAny_mono h₁ (fun it s₂ h₂ => ?_) fun _ _ e => e) fun _ _ e => e)
  refine comp2_block (RR := fun acc C => compPost (model prog w) A E none Q acc C) hcell hkind hx hnd hfold h₂ ?_
  intro D C h' tk mC _ hC _ hq
  exact ⟨mC, hC, hq⟩

theorem asg_name {L C : Addr} {x : Str} {px : Pos} {scope : Scope} {cl : List (Str × Addr)} {I : Addr} {vs : List Value} {nb : Led} {St : Nat → Heap → Prop} (hkind : scope.kind = .function) (hx : scope.names.lookup x = some .local) :
    Asg prog w A h₀ L (compEnvC scope cl C env) (.Name x px) I vs nb St (fun v m => m x = some v) := by
  intro i v s' m' Q' E' hv _ hn _ hq
  refine wpAny_pure (wpAny_assign_Name (wpAny_storeName_local (lookup_relabel_local hx) hn (fun h₂ hn₂ hs₂ => ?_) (by simp [compEnvC, relabel, hkind])))
  exact hq h₂ _ _ hn₂ (by simp) fun b o hb e => hs₂.extBut b o hb e
end
open PySem PySem.W PySem.Calls PyProof.Rows PySem.Spec
theorem frag_on23 : (hdS.heap_1 = hdS.heap_1 ∧ PySem.Challenge.rw_on0122_01 = PySem.Challenge.rw_on0122_01) := by
  k_fill
  exact ⟨rfl, rfl⟩

def ExRowsC (w : World) (n c : Nat) : Prop := ∀ {rest : Led} {v : Value} {rows : Rws}, ExIn rest n v rows → LDoes w 283 c [v] rest rows
theorem ExRowsC.use {w : World} {n c : Nat} (h : ExRowsC w n c) {rest : Led} {v : Value} {rows : Rws} (he : ExIn rest n v rows) : LDoes w 283 c [v] rest rows := h he
theorem add_led {prog : Program} {w : World} {A : Around} {s : Shared} {h₀ : Heap} {L l b : Addr} {m : Str → Option Value} {news : Led} {vs ws : List Value} {n n2 : Nat} {Q : Value → Shared → Prop} {E : Value → Shared → Prop}
    (F : Fr h₀ L s.heap m) (N : News h₀ L s.heap news) (ha : (l, listOf vs.toArray n) ∈ news) (hb : (b, listOf ws.toArray n2) ∈ news) (hz : vs.length + ws.length ≤ 1000000)
    (h : ∀ D h', Fr h₀ L h' m → News h₀ L h' ((D, listOf (vs ++ ws).toArray 0) :: news) → (∀ p ∈ news, p.1 < D) → Q (.ref D) { s with heap := h' }) : wpAny (model prog w) A (binaryOp .Add (.ref l) (.ref b)) Q E s :=
  kmk_add_lit (its := vs.toArray) (its2 := ws.toArray) F N ⟨_, (N _ ha).1, rfl, n, rfl⟩ ⟨_, (N _ hb).1, rfl, n2, rfl⟩ (zs := vs ++ ws) (by simp) h (by rw [sizeLine_eq]; simp; omega)
theorem exLen {led : Led} : ∀ {n : Nat} {v : Value} {rows : Rws}, ExIn led n v rows → rows.length ≤ 2 ^ n := by
  have leaf : ∀ {v : Value} {rows : Rws}, LeafIn led v rows → rows.length ≤ 1 := by
    rintro v rows (⟨a, n, t0, i, t1, x, t2, e, hm, hw, rfl⟩ | ⟨a, n, t0, i, t1, e, hm, rfl⟩)
    · unfold idRows; split <;> simp
    · simp
  intro n
  induction n with
  | zero => intro v rows h; exact leaf h
  | succ n ih =>
    intro v rows h
    have h1 : 1 ≤ 2 ^ n := Nat.one_le_two_pow
    rw [Nat.pow_succ]
    rcases h with h | ⟨a, n1, t0, i, t1, t2, l, r, rl, rr, e, hm, h2, h3, rfl⟩ | ⟨a, n1, t0, i, t1, b, nb, vs, rss, e, hm, hb, hl, hp, rfl⟩
    · have := leaf h; omega
    · rw [List.length_append]; have := ih h2; have := ih h3; omega
    · have key : ∀ {vs : List Value} {rss : List Rws}, Paired (ExIn led n) vs rss → rss.flatten.length ≤ vs.length * 2 ^ n := by
        intro vs rss hp
        induction hp with
        | nil => simp
        | cons h _ ih2 => rw [List.flatten_cons, List.length_append, List.length_cons, Nat.add_mul, Nat.one_mul]; have := ih h; omega
      have h4 := key hp
      have h5 : vs.length * 2 ^ n ≤ 2 * 2 ^ n := Nat.mul_le_mul_right _ hl
      omega

theorem LDoes.fin0 {rest led : Led} {h₀ h' : Heap} {L D : Addr} {m : Str → Option Value} {s : Shared} {Q : Value → Shared → Prop} {tk' : Nat} {k : Nat}
    (hret : ∀ r post h' tk', Fr h₀ L h' m → News h₀ L h' post → (∃ tl, post = rest ++ tl ∧ (∀ q ∈ rest, ∀ p ∈ tl, @LT.lt Nat _ q.1 p.1) ∧ LPost [] r tl) → Q r { s with heap := h', toks := tk' })
    (F' : Fr h₀ L h' m) (N' : News h₀ L h' ((D, listOf ([] : List Value).toArray k) :: led)) (hs : ∀ p ∈ rest, p ∈ led) (hD : AllLt D rest) : Q (.ref D) { s with heap := h', toks := tk' } :=
  LDoes.fin (tl := []) (vs := []) hret F' N' (.head _) (fun p hp => .tail _ (hs p (by simpa using hp))) hD (fun _ h => nomatch h) above_nil .nil
theorem LDoes.fin1 {rest led : Led} {h₀ h' : Heap} {L D D2 : Addr} {m : Str → Option Value} {s : Shared} {Q : Value → Shared → Prop} {tk' : Nat} {k n : Nat} {kd : String} {i : Int} {x : Str} {t0 t1 t2 : Tok}
    (hret : ∀ r post h' tk', Fr h₀ L h' m → News h₀ L h' post → (∃ tl, post = rest ++ tl ∧ (∀ q ∈ rest, ∀ p ∈ tl, @LT.lt Nat _ q.1 p.1) ∧ LPost [row kd i x] r tl) → Q r { s with heap := h', toks := tk' })
    (F' : Fr h₀ L h' m) (N' : News h₀ L h' ((D, listOf [.ref D2].toArray k) :: (D2, tupO [tx kd t0, .int i t1, .str x t2] n) :: led)) (hs : ∀ p ∈ rest, p ∈ led) (hD : AllLt D rest) (hD2 : AllLt D2 rest) (hlt : @LT.lt Nat _ D2 D) : Q (.ref D) { s with heap := h', toks := tk' } :=
  LDoes.fin (tl := [(D2, tupO [tx kd t0, .int i t1, .str x t2] n)]) (vs := [.ref D2]) hret F' N' (.head _) (fun p hp => by
    rcases List.mem_append.mp hp with hp | hp
    · exact .tail _ (.tail _ (hs p hp))
    · rw [List.mem_singleton.mp hp]; exact .tail _ (.head _)) hD (fun p hp => by rw [List.mem_singleton.mp hp]; exact Nat.ne_of_lt hlt) (Above.cons hD2 above_nil) (.cons ⟨D2, n, kd, t0, i, t1, x, t2, rfl, .head _, rfl⟩ .nil)
theorem off_of {D : Addr} {tl : Led} (h : AllLt D tl) : Off D tl := fun p hp => Nat.ne_of_lt (ktn_ltOf h p hp)
theorem allLt_right {D : Addr} : ∀ {a b : Led}, AllLt D (a ++ b) → AllLt D b
  | [], _, h => h
  | _ :: _, _, h => allLt_right h.2

set_option maxHeartbeats 8000000 in
theorem exRows0 {w : World} : ExRowsC w 0 3 := by
  intro rest v rows hE
  rcases hE with ⟨a, n, q0, i, q1, x, q2, rfl, hm, hw, rfl⟩ | ⟨a, n, q0, i, q1, rfl, hm, rfl⟩
  · rcases hw with rfl | rfl | rfl | rfl | rfl | rfl
    iterate 5
      · show LDoes w 283 3 _ rest []
        intro dp un gd env outer A₀ base h₀ L m mean mg mb s Q E HA hd hu hret
        obtain ⟨B, F, X, N, T, fr, kd⟩ := HA
        refine wpAny_call ?_
        k_dflt ktr_enter
        (repeat' (first | ((with_reducible show wpAny _ _ _ _ _ (Shared.mk _ _ _ (_ + 1 + 1) _)); (refine forgetT ?_); (intro tk9); (try dsimp only)) | ((with_reducible show wpAny _ _ (PySem.exec _ _) _ _ _); ((fail_if_success (refine' hidden_test ?hQ ?_; (case hQ => with_reducible assumption))); (refine' hideQ ?_); (intro Q9 hQ9))) | (k_unfold; (try dsimp only)) | (k_end; wrow_close) | ((with_reducible show wpAny _ _ (call _ _ _) _ _ _); (first | with_reducible (k_here; (with_reducible show wpAny _ _ (call (Value.ref 283) [_] _) _ _ _); k_dflt (refine' LDoes.use ?k1 ?k2 ?k3 ?k4 ?k5 ?k6 ?k7 (ExRowsC.use ?h0 ?h1) ?kd ?ku ?_; (case k1 => k_asm); (case k2 => k_asm); (case k3 => k_asm); (case k4 => k_asm); (case k5 => k_asm); (case k6 => first | exact rfl | assumption); (case k7 => first | exact rfl | assumption); (case h0 => assumption); (case h1 => first | assumption | exact ExIn.up (by assumption) (by tb_start)); (case kd => (try dsimp only [Around.deeper]); omega); (case ku => (try dsimp only [Around.deeper]); omega)); (intro a' vs' n' tl' h' tk' F' N' hl' ho1' ho2' hab' hr'); (have hlen' := Paired.length hr'); (try simp only [List.nil_append, List.cons_append, List.append_nil, List.append_assoc] at N'); (try k_sweep); (try dsimp only); (try k_fold)))) | ((with_reducible show wpAny _ _ (PySem.eval (PySem.Expr.ListComp _ _ _ _) _) _ _ _); (k_here; refine' comp2_led ?kh ?c1 ?c2 ?c3 ?c4 ?c5 ?cn ?_ ?c6 ?c7; (case kh => k_asm); (case c1 => with_unfolding_all rfl); (case c2 => decide); (case c3 => with_unfolding_all rfl); (case c4 => decide); (case c5 => with_unfolding_all rfl); (case cn => decide); (case c6 => intro _; with_unfolding_all rfl); (case c7 => intro _ _; with_unfolding_all rfl))) | with_reducible (k_here; (with_reducible show wpAny _ _ (binaryOp _ (Value.ref _) (Value.ref _)) _ _ _); k_dflt (refine' add_led ?F ?N ?a ?b ?z ?_; (case F => k_asm); (case N => k_asm); (case a => k_mem); (case b => k_mem); (case z => omega)); intro D' h' F' N' l1; (try k_lt l1); (try k_sweep)) | walk1 | ((refine' Hid.use ?hQ ?_); (case hQ => with_reducible assumption); (try dsimp only)) | dsimp only | (leave1; (try dsimp only)) | fail "no step"))
        (repeat ((rename _ ∧ _ => hAnd); (obtain ⟨_, _⟩ := hAnd)))
        refine' LDoes.fin0 hret ?F ?N ?S ?D
        case F => assumption
        case N => assumption
        case S => tb_start
        case D => (first | assumption | exact PySem.W.allLt_of (by assumption) | exact allLt_left (by assumption) | exact allLt_right (by assumption))
    · show LDoes w 283 3 _ rest [_]
      intro dp un gd env outer A₀ base h₀ L m mean mg mb s Q E HA hd hu hret
      obtain ⟨B, F, X, N, T, fr, kd⟩ := HA
      refine wpAny_call ?_
      k_dflt ktr_enter
      (repeat' (first | ((with_reducible show wpAny _ _ _ _ _ (Shared.mk _ _ _ (_ + 1 + 1) _)); (refine forgetT ?_); (intro tk9); (try dsimp only)) | ((with_reducible show wpAny _ _ (PySem.exec _ _) _ _ _); ((fail_if_success (refine' hidden_test ?hQ ?_; (case hQ => with_reducible assumption))); (refine' hideQ ?_); (intro Q9 hQ9))) | (k_unfold; (try dsimp only)) | (k_end; wrow_close) | ((with_reducible show wpAny _ _ (call _ _ _) _ _ _); (first | with_reducible (k_here; (with_reducible show wpAny _ _ (call (Value.ref 283) [_] _) _ _ _); k_dflt (refine' LDoes.use ?k1 ?k2 ?k3 ?k4 ?k5 ?k6 ?k7 (ExRowsC.use ?h0 ?h1) ?kd ?ku ?_; (case k1 => k_asm); (case k2 => k_asm); (case k3 => k_asm); (case k4 => k_asm); (case k5 => k_asm); (case k6 => first | exact rfl | assumption); (case k7 => first | exact rfl | assumption); (case h0 => assumption); (case h1 => first | assumption | exact ExIn.up (by assumption) (by tb_start)); (case kd => (try dsimp only [Around.deeper]); omega); (case ku => (try dsimp only [Around.deeper]); omega)); (intro a' vs' n' tl' h' tk' F' N' hl' ho1' ho2' hab' hr'); (have hlen' := Paired.length hr'); (try simp only [List.nil_append, List.cons_append, List.append_nil, List.append_assoc] at N'); (try k_sweep); (try dsimp only); (try k_fold)))) | ((with_reducible show wpAny _ _ (PySem.eval (PySem.Expr.ListComp _ _ _ _) _) _ _ _); (k_here; refine' comp2_led ?kh ?c1 ?c2 ?c3 ?c4 ?c5 ?cn ?_ ?c6 ?c7; (case kh => k_asm); (case c1 => with_unfolding_all rfl); (case c2 => decide); (case c3 => with_unfolding_all rfl); (case c4 => decide); (case c5 => with_unfolding_all rfl); (case cn => decide); (case c6 => intro _; with_unfolding_all rfl); (case c7 => intro _ _; with_unfolding_all rfl))) | with_reducible (k_here; (with_reducible show wpAny _ _ (binaryOp _ (Value.ref _) (Value.ref _)) _ _ _); k_dflt (refine' add_led ?F ?N ?a ?b ?z ?_; (case F => k_asm); (case N => k_asm); (case a => k_mem); (case b => k_mem); (case z => omega)); intro D' h' F' N' l1; (try k_lt l1); (try k_sweep)) | walk1 | ((refine' Hid.use ?hQ ?_); (case hQ => with_reducible assumption); (try dsimp only)) | dsimp only | (leave1; (try dsimp only)) | fail "no step"))
      (repeat ((rename _ ∧ _ => hAnd); (obtain ⟨_, _⟩ := hAnd)))
      refine' LDoes.fin1 hret ?F ?N ?S ?D ?D2 ?LT
      case F => assumption
      case N => assumption
      case S => tb_start
      case D => (first | assumption | exact PySem.W.allLt_of (by assumption) | exact allLt_left (by assumption) | exact allLt_right (by assumption))
      case D2 => (first | assumption | exact PySem.W.allLt_of (by assumption) | exact allLt_left (by assumption) | exact allLt_right (by assumption))
      case LT => assumption
  · intro dp un gd env outer A₀ base h₀ L m mean mg mb s Q E HA hd hu hret
    obtain ⟨B, F, X, N, T, fr, kd⟩ := HA
    refine wpAny_call ?_
    k_dflt ktr_enter
    (repeat' (first | ((with_reducible show wpAny _ _ _ _ _ (Shared.mk _ _ _ (_ + 1 + 1) _)); (refine forgetT ?_); (intro tk9); (try dsimp only)) | ((with_reducible show wpAny _ _ (PySem.exec _ _) _ _ _); ((fail_if_success (refine' hidden_test ?hQ ?_; (case hQ => with_reducible assumption))); (refine' hideQ ?_); (intro Q9 hQ9))) | (k_unfold; (try dsimp only)) | (k_end; wrow_close) | ((with_reducible show wpAny _ _ (call _ _ _) _ _ _); (first | with_reducible (k_here; (with_reducible show wpAny _ _ (call (Value.ref 283) [_] _) _ _ _); k_dflt (refine' LDoes.use ?k1 ?k2 ?k3 ?k4 ?k5 ?k6 ?k7 (ExRowsC.use ?h0 ?h1) ?kd ?ku ?_; (case k1 => k_asm); (case k2 => k_asm); (case k3 => k_asm); (case k4 => k_asm); (case k5 => k_asm); (case k6 => first | exact rfl | assumption); (case k7 => first | exact rfl | assumption); (case h0 => assumption); (case h1 => first | assumption | exact ExIn.up (by assumption) (by tb_start)); (case kd => (try dsimp only [Around.deeper]); omega); (case ku => (try dsimp only [Around.deeper]); omega)); (intro a' vs' n' tl' h' tk' F' N' hl' ho1' ho2' hab' hr'); (have hlen' := Paired.length hr'); (try simp only [List.nil_append, List.cons_append, List.append_nil, List.append_assoc] at N'); (try k_sweep); (try dsimp only); (try k_fold)))) | ((with_reducible show wpAny _ _ (PySem.eval (PySem.Expr.ListComp _ _ _ _) _) _ _ _); (k_here; refine' comp2_led ?kh ?c1 ?c2 ?c3 ?c4 ?c5 ?cn ?_ ?c6 ?c7; (case kh => k_asm); (case c1 => with_unfolding_all rfl); (case c2 => decide); (case c3 => with_unfolding_all rfl); (case c4 => decide); (case c5 => with_unfolding_all rfl); (case cn => decide); (case c6 => intro _; with_unfolding_all rfl); (case c7 => intro _ _; with_unfolding_all rfl))) | with_reducible (k_here; (with_reducible show wpAny _ _ (binaryOp _ (Value.ref _) (Value.ref _)) _ _ _); k_dflt (refine' add_led ?F ?N ?a ?b ?z ?_; (case F => k_asm); (case N => k_asm); (case a => k_mem); (case b => k_mem); (case z => omega)); intro D' h' F' N' l1; (try k_lt l1); (try k_sweep)) | walk1 | ((refine' Hid.use ?hQ ?_); (case hQ => with_reducible assumption); (try dsimp only)) | dsimp only | (leave1; (try dsimp only)) | fail "no step"))
    (repeat ((rename _ ∧ _ => hAnd); (obtain ⟨_, _⟩ := hAnd)))
    refine' LDoes.fin0 hret ?F ?N ?S ?D
    case F => assumption
    case N => assumption
    case S => tb_start
    case D => (first | assumption | exact PySem.W.allLt_of (by assumption) | exact allLt_left (by assumption) | exact allLt_right (by assumption))

theorem exRows1 {w : World} : ExRowsC w 1 4 := by
  intro rest v rows hE
  have hc0 : ExRowsC w 0 3 := exRows0
  have hL : rows.length ≤ 2 := exLen hE
  rcases hE with hE | ⟨a, n, q0, i, q1, q2, e1, e2, rl, rr, rfl, hm, hE1, hE2, rfl⟩ | ⟨a, n, q0, i, q1, b, nb, vs, rss, rfl, hm, hb, hl, hp, rfl⟩
  · exact (hc0 hE).weak (by omega)
  · have hL1 : rl.length ≤ 1 := exLen hE1
    have hL2 : rr.length ≤ 1 := exLen hE2
    intro dp un gd env outer A₀ base h₀ L m mean mg mb s Q E HA hd hu hret
    obtain ⟨B, F, X, N, T, fr, kd⟩ := HA
    refine wpAny_call ?_
    k_dflt ktr_enter
    (repeat' (first | ((with_reducible show wpAny _ _ _ _ _ (Shared.mk _ _ _ (_ + 1 + 1) _)); (refine forgetT ?_); (intro tk9); (try dsimp only)) | ((with_reducible show wpAny _ _ (PySem.exec _ _) _ _ _); ((fail_if_success (refine' hidden_test ?hQ ?_; (case hQ => with_reducible assumption))); (refine' hideQ ?_); (intro Q9 hQ9))) | (k_unfold; (try dsimp only)) | (k_end; wrow_close) | ((with_reducible show wpAny _ _ (call _ _ _) _ _ _); (first | with_reducible (k_here; (with_reducible show wpAny _ _ (call (Value.ref 283) [_] _) _ _ _); k_dflt (refine' LDoes.use ?k1 ?k2 ?k3 ?k4 ?k5 ?k6 ?k7 (ExRowsC.use ?h0 ?h1) ?kd ?ku ?_; (case k1 => k_asm); (case k2 => k_asm); (case k3 => k_asm); (case k4 => k_asm); (case k5 => k_asm); (case k6 => first | exact rfl | assumption); (case k7 => first | exact rfl | assumption); (case h0 => assumption); (case h1 => first | assumption | exact ExIn.up (by assumption) (by tb_start)); (case kd => (try dsimp only [Around.deeper]); omega); (case ku => (try dsimp only [Around.deeper]); omega)); (intro a' vs' n' tl' h' tk' F' N' hl' ho1' ho2' hab' hr'); (have hlen' := Paired.length hr'); (try simp only [List.nil_append, List.cons_append, List.append_nil, List.append_assoc] at N'); (try k_sweep); (try dsimp only); (try k_fold)))) | ((with_reducible show wpAny _ _ (PySem.eval (PySem.Expr.ListComp _ _ _ _) _) _ _ _); (k_here; refine' comp2_led ?kh ?c1 ?c2 ?c3 ?c4 ?c5 ?cn ?_ ?c6 ?c7; (case kh => k_asm); (case c1 => with_unfolding_all rfl); (case c2 => decide); (case c3 => with_unfolding_all rfl); (case c4 => decide); (case c5 => with_unfolding_all rfl); (case cn => decide); (case c6 => intro _; with_unfolding_all rfl); (case c7 => intro _ _; with_unfolding_all rfl))) | with_reducible (k_here; (with_reducible show wpAny _ _ (binaryOp _ (Value.ref _) (Value.ref _)) _ _ _); k_dflt (refine' add_led ?F ?N ?a ?b ?z ?_; (case F => k_asm); (case N => k_asm); (case a => k_mem); (case b => k_mem); (case z => omega)); intro D' h' F' N' l1; (try k_lt l1); (try k_sweep)) | walk1 | ((refine' Hid.use ?hQ ?_); (case hQ => with_reducible assumption); (try dsimp only)) | dsimp only | (leave1; (try dsimp only)) | fail "no step"))
    (repeat ((rename _ ∧ _ => hAnd); (obtain ⟨_, _⟩ := hAnd)))
    refine' LDoes.fin hret ?F ?N (.head _) ?S ?D ?O ?A ?R
    case F => assumption
    case N => assumption
    case R => exact paired_append (RowsIn.mono (fun _ h => List.mem_append.mpr (.inl h)) (by assumption)) (RowsIn.mono (fun _ h => List.mem_append.mpr (.inr h)) (by assumption))
    case D => (first | assumption | exact PySem.W.allLt_of (by assumption) | exact allLt_left (by assumption) | exact allLt_right (by assumption))
    case O => exact off_of (allLt_right (by assumption))
    case A => tb_rel
    case S => tb_start
  · intro dp un gd env outer A₀ base h₀ L m mean mg mb s Q E HA hd hu hret
    obtain ⟨B, F, X, N, T, fr, kd⟩ := HA
    refine wpAny_call ?_
    k_dflt ktr_enter
    (repeat' (first | ((with_reducible show wpAny _ _ _ _ _ (Shared.mk _ _ _ (_ + 1 + 1) _)); (refine forgetT ?_); (intro tk9); (try dsimp only)) | ((with_reducible show wpAny _ _ (PySem.exec _ _) _ _ _); ((fail_if_success (refine' hidden_test ?hQ ?_; (case hQ => with_reducible assumption))); (refine' hideQ ?_); (intro Q9 hQ9))) | (k_unfold; (try dsimp only)) | (k_end; wrow_close) | ((with_reducible show wpAny _ _ (call _ _ _) _ _ _); (first | with_reducible (k_here; (with_reducible show wpAny _ _ (call (Value.ref 283) [_] _) _ _ _); k_dflt (refine' LDoes.use ?k1 ?k2 ?k3 ?k4 ?k5 ?k6 ?k7 (ExRowsC.use ?h0 ?h1) ?kd ?ku ?_; (case k1 => k_asm); (case k2 => k_asm); (case k3 => k_asm); (case k4 => k_asm); (case k5 => k_asm); (case k6 => first | exact rfl | assumption); (case k7 => first | exact rfl | assumption); (case h0 => assumption); (case h1 => first | assumption | exact ExIn.up (by assumption) (by tb_start)); (case kd => (try dsimp only [Around.deeper]); omega); (case ku => (try dsimp only [Around.deeper]); omega)); (intro a' vs' n' tl' h' tk' F' N' hl' ho1' ho2' hab' hr'); (have hlen' := Paired.length hr'); (try simp only [List.nil_append, List.cons_append, List.append_nil, List.append_assoc] at N'); (try k_sweep); (try dsimp only); (try k_fold)))) | ((with_reducible show wpAny _ _ (PySem.eval (PySem.Expr.ListComp _ _ _ _) _) _ _ _); (k_here; refine' comp2_led ?kh ?c1 ?c2 ?c3 ?c4 ?c5 ?cn ?_ ?c6 ?c7; (case kh => k_asm); (case c1 => with_unfolding_all rfl); (case c2 => decide); (case c3 => with_unfolding_all rfl); (case c4 => decide); (case c5 => with_unfolding_all rfl); (case cn => decide); (case c6 => intro _; with_unfolding_all rfl); (case c7 => intro _ _; with_unfolding_all rfl))) | with_reducible (k_here; (with_reducible show wpAny _ _ (binaryOp _ (Value.ref _) (Value.ref _)) _ _ _); k_dflt (refine' add_led ?F ?N ?a ?b ?z ?_; (case F => k_asm); (case N => k_asm); (case a => k_mem); (case b => k_mem); (case z => omega)); intro D' h' F' N' l1; (try k_lt l1); (try k_sweep)) | walk1 | ((refine' Hid.use ?hQ ?_); (case hQ => with_reducible assumption); (try dsimp only)) | dsimp only | (leave1; (try dsimp only)) | fail "no step"))
    refine iter_tuple rfl (by assumption) (by assumption) (by k_mem) ?_
    intro I St h1 F1 N1 hI hIt
    refine ⟨I, _, _, vs, rss, St, _, rest, _, fun v m => m (Str.ofString "inner") = some v, ExIn rest 0, rfl, rfl, hI, F1, N1, fun p hp => (List.mem_singleton.mp hp) ▸ hb, hp, by omega, fun C => asg_name rfl (by with_unfolding_all rfl), ?_, ?_⟩
    · intro i v rows tl own h tk mC E' C oC hv hrel hlen F2 N2 hNs hG
      (try dsimp only at hG)
      (repeat' (first | ((with_reducible show wpAny _ _ _ _ _ (Shared.mk _ _ _ (_ + 1 + 1) _)); (refine forgetT ?_); (intro tk9); (try dsimp only)) | ((with_reducible show wpAny _ _ (PySem.exec _ _) _ _ _); ((fail_if_success (refine' hidden_test ?hQ ?_; (case hQ => with_reducible assumption))); (refine' hideQ ?_); (intro Q9 hQ9))) | (k_unfold; (try dsimp only)) | (k_end; wrow_close) | ((with_reducible show wpAny _ _ (call _ _ _) _ _ _); (first | with_reducible (k_here; (with_reducible show wpAny _ _ (call (Value.ref 283) [_] _) _ _ _); k_dflt (refine' LDoes.use ?k1 ?k2 ?k3 ?k4 ?k5 ?k6 ?k7 (ExRowsC.use ?h0 ?h1) ?kd ?ku ?_; (case k1 => k_asm); (case k2 => k_asm); (case k3 => k_asm); (case k4 => k_asm); (case k5 => k_asm); (case k6 => first | exact rfl | assumption); (case k7 => first | exact rfl | assumption); (case h0 => assumption); (case h1 => first | assumption | exact ExIn.up (by assumption) (by tb_start)); (case kd => (try dsimp only [Around.deeper]); omega); (case ku => (try dsimp only [Around.deeper]); omega)); (intro a' vs' n' tl' h' tk' F' N' hl' ho1' ho2' hab' hr'); (have hlen' := Paired.length hr'); (try simp only [List.nil_append, List.cons_append, List.append_nil, List.append_assoc] at N'); (try k_sweep); (try dsimp only); (try k_fold)))) | ((with_reducible show wpAny _ _ (PySem.eval (PySem.Expr.ListComp _ _ _ _) _) _ _ _); (k_here; refine' comp2_led ?kh ?c1 ?c2 ?c3 ?c4 ?c5 ?cn ?_ ?c6 ?c7; (case kh => k_asm); (case c1 => with_unfolding_all rfl); (case c2 => decide); (case c3 => with_unfolding_all rfl); (case c4 => decide); (case c5 => with_unfolding_all rfl); (case cn => decide); (case c6 => intro _; with_unfolding_all rfl); (case c7 => intro _ _; with_unfolding_all rfl))) | with_reducible (k_here; (with_reducible show wpAny _ _ (binaryOp _ (Value.ref _) (Value.ref _)) _ _ _); k_dflt (refine' add_led ?F ?N ?a ?b ?z ?_; (case F => k_asm); (case N => k_asm); (case a => k_mem); (case b => k_mem); (case z => omega)); intro D' h' F' N' l1; (try k_lt l1); (try k_sweep)) | walk1 | ((refine' Hid.use ?hQ ?_); (case hQ => with_reducible assumption); (try dsimp only)) | dsimp only | (leave1; (try dsimp only)) | fail "no step"))
      refine' RowsTurn.intro ?F ?N ?M ?S ?L ?A ?R
      case F => assumption
      case N => assumption
      case R => assumption
      case M => k_mem
      case L => (first | assumption | exact PySem.W.allLt_of (by assumption) | exact allLt_left (by assumption) | exact allLt_right (by assumption))
      case A => tb_rel
      case S => tb_start
    · intro D k ys tl h tk hr hl ho hab F2 N2
      (repeat' (first | ((with_reducible show wpAny _ _ _ _ _ (Shared.mk _ _ _ (_ + 1 + 1) _)); (refine forgetT ?_); (intro tk9); (try dsimp only)) | ((with_reducible show wpAny _ _ (PySem.exec _ _) _ _ _); ((fail_if_success (refine' hidden_test ?hQ ?_; (case hQ => with_reducible assumption))); (refine' hideQ ?_); (intro Q9 hQ9))) | (k_unfold; (try dsimp only)) | (k_end; wrow_close) | ((with_reducible show wpAny _ _ (call _ _ _) _ _ _); (first | with_reducible (k_here; (with_reducible show wpAny _ _ (call (Value.ref 283) [_] _) _ _ _); k_dflt (refine' LDoes.use ?k1 ?k2 ?k3 ?k4 ?k5 ?k6 ?k7 (ExRowsC.use ?h0 ?h1) ?kd ?ku ?_; (case k1 => k_asm); (case k2 => k_asm); (case k3 => k_asm); (case k4 => k_asm); (case k5 => k_asm); (case k6 => first | exact rfl | assumption); (case k7 => first | exact rfl | assumption); (case h0 => assumption); (case h1 => first | assumption | exact ExIn.up (by assumption) (by tb_start)); (case kd => (try dsimp only [Around.deeper]); omega); (case ku => (try dsimp only [Around.deeper]); omega)); (intro a' vs' n' tl' h' tk' F' N' hl' ho1' ho2' hab' hr'); (have hlen' := Paired.length hr'); (try simp only [List.nil_append, List.cons_append, List.append_nil, List.append_assoc] at N'); (try k_sweep); (try dsimp only); (try k_fold)))) | ((with_reducible show wpAny _ _ (PySem.eval (PySem.Expr.ListComp _ _ _ _) _) _ _ _); (k_here; refine' comp2_led ?kh ?c1 ?c2 ?c3 ?c4 ?c5 ?cn ?_ ?c6 ?c7; (case kh => k_asm); (case c1 => with_unfolding_all rfl); (case c2 => decide); (case c3 => with_unfolding_all rfl); (case c4 => decide); (case c5 => with_unfolding_all rfl); (case cn => decide); (case c6 => intro _; with_unfolding_all rfl); (case c7 => intro _ _; with_unfolding_all rfl))) | with_reducible (k_here; (with_reducible show wpAny _ _ (binaryOp _ (Value.ref _) (Value.ref _)) _ _ _); k_dflt (refine' add_led ?F ?N ?a ?b ?z ?_; (case F => k_asm); (case N => k_asm); (case a => k_mem); (case b => k_mem); (case z => omega)); intro D' h' F' N' l1; (try k_lt l1); (try k_sweep)) | walk1 | ((refine' Hid.use ?hQ ?_); (case hQ => with_reducible assumption); (try dsimp only)) | dsimp only | (leave1; (try dsimp only)) | fail "no step"))
      refine' LDoes.fin hret ?F ?N (.head _) ?S ?D ?O ?A ?R
      case F => assumption
      case N => assumption
      case R => assumption
      case D => (first | assumption | exact PySem.W.allLt_of (by assumption) | exact allLt_left (by assumption) | exact allLt_right (by assumption))
      case O => assumption
      case A => tb_rel
      case S => tb_start
open PySem PySem.W PySem.Calls PyProof.Rows PySem.Spec
theorem frag_on24 : (hdS.heap_1 = hdS.heap_1 ∧ PySem.Challenge.rw_on0122_01 = PySem.Challenge.rw_on0122_01) := by
  k_fill
  exact ⟨rfl, rfl⟩

def TgRowsC (w : World) (c : Nat) : Prop := ∀ {rest : Led} {b : Addr} {nb : Nat} {t2 t3 t4 : Tok} {i : Int} {x : Str}, (b, tupO [tx "id" t2, .int i t3, .str x t4] nb) ∈ rest → Wd x → LDoes w 290 c [.ref b] rest (tgRows i x)
theorem TgRowsC.use {w : World} {c : Nat} (h : TgRowsC w c) {rest : Led} {b : Addr} {nb : Nat} {t2 t3 t4 : Tok} {i : Int} {x : Str} (hm : (b, tupO [tx "id" t2, .int i t3, .str x t4] nb) ∈ rest) (hw : Wd x) : LDoes w 290 c [.ref b] rest (tgRows i x) := h hm hw
theorem tgLen {i : Int} {x : Str} : (tgRows i x).length ≤ 1 := by unfold tgRows; repeat' split
                                                                  all_goals simp
set_option maxHeartbeats 8000000 in
theorem tgRows0 {w : World} : TgRowsC w 2 := by
  intro rest b nb t2 t3 t4 i x hm hw
  rcases hw with rfl | rfl | rfl | rfl | rfl | rfl
  · show LDoes w 290 2 _ rest []
    intro dp un gd env outer A₀ base h₀ L m mean mg mb s Q E HA hd hu hret
    obtain ⟨B, F, X, N, T, fr, kd⟩ := HA
    refine wpAny_call ?_
    k_dflt ktr_enter
    (repeat' (first | ((with_reducible show wpAny _ _ _ _ _ (Shared.mk _ _ _ (_ + 1 + 1) _)); (refine forgetT ?_); (intro tk9); (try dsimp only)) | ((with_reducible show wpAny _ _ (PySem.exec _ _) _ _ _); ((fail_if_success (refine' hidden_test ?hQ ?_; (case hQ => with_reducible assumption))); (refine' hideQ ?_); (intro Q9 hQ9))) | (k_unfold; (try dsimp only)) | (k_end; wrow_close) | with_reducible (k_here; (with_reducible show wpAny _ _ (getItem (Value.ref _) (Value.str _ _)) _ _ _); k_dflt (refine kdt_getItem (knd := PySem.strKind _ _) (by k_asm) (by k_mem) (by k_asm) (strKind_is _ _ _ _) (by rfl) ?_)) | with_reducible (k_here; (with_reducible show wpAny _ _ (subscriptTail _ _ (Value.ref _) (Value.str _ _)) _ _ _); k_dflt (refine kdt_tail (knd := PySem.strKind _ _) (by k_asm) (by k_mem) (by k_asm) ?_)) | with_reducible (k_here; (with_reducible show wpAny _ _ (compareOp _ (Value.str _ _) (Value.ref _)) _ _ _); k_dflt (first | refine kda_in (knd := PySem.strKind _ _) (by k_asm) (by k_mem) (by k_asm) (by k_asm) (strKind_is _ _ _ _) true (by rfl) ?_ | refine kda_in (knd := PySem.strKind _ _) (by k_asm) (by k_mem) (by k_asm) (by k_asm) (strKind_is _ _ _ _) false (by rfl) ?_)) | walk1 | ((refine' Hid.use ?hQ ?_); (case hQ => with_reducible assumption); (try dsimp only)) | dsimp only | (leave1; (try dsimp only)) | fail "no step"))
    (repeat ((rename _ ∧ _ => hAnd); (obtain ⟨_, _⟩ := hAnd)))
    refine' LDoes.fin0 hret ?F ?N ?S ?D
    case F => assumption
    case N => assumption
    case S => tb_start
    case D => (first | assumption | exact PySem.W.allLt_of (by assumption) | exact allLt_left (by assumption) | exact allLt_right (by assumption))
  · show LDoes w 290 2 _ rest []
    intro dp un gd env outer A₀ base h₀ L m mean mg mb s Q E HA hd hu hret
    obtain ⟨B, F, X, N, T, fr, kd⟩ := HA
    refine wpAny_call ?_
    k_dflt ktr_enter
    (repeat' (first | ((with_reducible show wpAny _ _ _ _ _ (Shared.mk _ _ _ (_ + 1 + 1) _)); (refine forgetT ?_); (intro tk9); (try dsimp only)) | ((with_reducible show wpAny _ _ (PySem.exec _ _) _ _ _); ((fail_if_success (refine' hidden_test ?hQ ?_; (case hQ => with_reducible assumption))); (refine' hideQ ?_); (intro Q9 hQ9))) | (k_unfold; (try dsimp only)) | (k_end; wrow_close) | with_reducible (k_here; (with_reducible show wpAny _ _ (getItem (Value.ref _) (Value.str _ _)) _ _ _); k_dflt (refine kdt_getItem (knd := PySem.strKind _ _) (by k_asm) (by k_mem) (by k_asm) (strKind_is _ _ _ _) (by rfl) ?_)) | with_reducible (k_here; (with_reducible show wpAny _ _ (subscriptTail _ _ (Value.ref _) (Value.str _ _)) _ _ _); k_dflt (refine kdt_tail (knd := PySem.strKind _ _) (by k_asm) (by k_mem) (by k_asm) ?_)) | with_reducible (k_here; (with_reducible show wpAny _ _ (compareOp _ (Value.str _ _) (Value.ref _)) _ _ _); k_dflt (first | refine kda_in (knd := PySem.strKind _ _) (by k_asm) (by k_mem) (by k_asm) (by k_asm) (strKind_is _ _ _ _) true (by rfl) ?_ | refine kda_in (knd := PySem.strKind _ _) (by k_asm) (by k_mem) (by k_asm) (by k_asm) (strKind_is _ _ _ _) false (by rfl) ?_)) | walk1 | ((refine' Hid.use ?hQ ?_); (case hQ => with_reducible assumption); (try dsimp only)) | dsimp only | (leave1; (try dsimp only)) | fail "no step"))
    (repeat ((rename _ ∧ _ => hAnd); (obtain ⟨_, _⟩ := hAnd)))
    refine' LDoes.fin0 hret ?F ?N ?S ?D
    case F => assumption
    case N => assumption
    case S => tb_start
    case D => (first | assumption | exact PySem.W.allLt_of (by assumption) | exact allLt_left (by assumption) | exact allLt_right (by assumption))
  · show LDoes w 290 2 _ rest [_]
    intro dp un gd env outer A₀ base h₀ L m mean mg mb s Q E HA hd hu hret
    obtain ⟨B, F, X, N, T, fr, kd⟩ := HA
    refine wpAny_call ?_
    k_dflt ktr_enter
    (repeat' (first | ((with_reducible show wpAny _ _ _ _ _ (Shared.mk _ _ _ (_ + 1 + 1) _)); (refine forgetT ?_); (intro tk9); (try dsimp only)) | ((with_reducible show wpAny _ _ (PySem.exec _ _) _ _ _); ((fail_if_success (refine' hidden_test ?hQ ?_; (case hQ => with_reducible assumption))); (refine' hideQ ?_); (intro Q9 hQ9))) | (k_unfold; (try dsimp only)) | (k_end; wrow_close) | with_reducible (k_here; (with_reducible show wpAny _ _ (getItem (Value.ref _) (Value.str _ _)) _ _ _); k_dflt (refine kdt_getItem (knd := PySem.strKind _ _) (by k_asm) (by k_mem) (by k_asm) (strKind_is _ _ _ _) (by rfl) ?_)) | with_reducible (k_here; (with_reducible show wpAny _ _ (subscriptTail _ _ (Value.ref _) (Value.str _ _)) _ _ _); k_dflt (refine kdt_tail (knd := PySem.strKind _ _) (by k_asm) (by k_mem) (by k_asm) ?_)) | with_reducible (k_here; (with_reducible show wpAny _ _ (compareOp _ (Value.str _ _) (Value.ref _)) _ _ _); k_dflt (first | refine kda_in (knd := PySem.strKind _ _) (by k_asm) (by k_mem) (by k_asm) (by k_asm) (strKind_is _ _ _ _) true (by rfl) ?_ | refine kda_in (knd := PySem.strKind _ _) (by k_asm) (by k_mem) (by k_asm) (by k_asm) (strKind_is _ _ _ _) false (by rfl) ?_)) | walk1 | ((refine' Hid.use ?hQ ?_); (case hQ => with_reducible assumption); (try dsimp only)) | dsimp only | (leave1; (try dsimp only)) | fail "no step"))
    (repeat ((rename _ ∧ _ => hAnd); (obtain ⟨_, _⟩ := hAnd)))
    refine' LDoes.fin1 hret ?F ?N ?S ?D ?D2 ?LT
    case F => assumption
    case N => assumption
    case S => tb_start
    case D => (first | assumption | exact PySem.W.allLt_of (by assumption) | exact allLt_left (by assumption) | exact allLt_right (by assumption))
    case D2 => (first | assumption | exact PySem.W.allLt_of (by assumption) | exact allLt_left (by assumption) | exact allLt_right (by assumption))
    case LT => assumption
  · show LDoes w 290 2 _ rest [_]
    intro dp un gd env outer A₀ base h₀ L m mean mg mb s Q E HA hd hu hret
    obtain ⟨B, F, X, N, T, fr, kd⟩ := HA
    refine wpAny_call ?_
    k_dflt ktr_enter
    (repeat' (first | ((with_reducible show wpAny _ _ _ _ _ (Shared.mk _ _ _ (_ + 1 + 1) _)); (refine forgetT ?_); (intro tk9); (try dsimp only)) | ((with_reducible show wpAny _ _ (PySem.exec _ _) _ _ _); ((fail_if_success (refine' hidden_test ?hQ ?_; (case hQ => with_reducible assumption))); (refine' hideQ ?_); (intro Q9 hQ9))) | (k_unfold; (try dsimp only)) | (k_end; wrow_close) | with_reducible (k_here; (with_reducible show wpAny _ _ (getItem (Value.ref _) (Value.str _ _)) _ _ _); k_dflt (refine kdt_getItem (knd := PySem.strKind _ _) (by k_asm) (by k_mem) (by k_asm) (strKind_is _ _ _ _) (by rfl) ?_)) | with_reducible (k_here; (with_reducible show wpAny _ _ (subscriptTail _ _ (Value.ref _) (Value.str _ _)) _ _ _); k_dflt (refine kdt_tail (knd := PySem.strKind _ _) (by k_asm) (by k_mem) (by k_asm) ?_)) | with_reducible (k_here; (with_reducible show wpAny _ _ (compareOp _ (Value.str _ _) (Value.ref _)) _ _ _); k_dflt (first | refine kda_in (knd := PySem.strKind _ _) (by k_asm) (by k_mem) (by k_asm) (by k_asm) (strKind_is _ _ _ _) true (by rfl) ?_ | refine kda_in (knd := PySem.strKind _ _) (by k_asm) (by k_mem) (by k_asm) (by k_asm) (strKind_is _ _ _ _) false (by rfl) ?_)) | walk1 | ((refine' Hid.use ?hQ ?_); (case hQ => with_reducible assumption); (try dsimp only)) | dsimp only | (leave1; (try dsimp only)) | fail "no step"))
    (repeat ((rename _ ∧ _ => hAnd); (obtain ⟨_, _⟩ := hAnd)))
    refine' LDoes.fin1 hret ?F ?N ?S ?D ?D2 ?LT
    case F => assumption
    case N => assumption
    case S => tb_start
    case D => (first | assumption | exact PySem.W.allLt_of (by assumption) | exact allLt_left (by assumption) | exact allLt_right (by assumption))
    case D2 => (first | assumption | exact PySem.W.allLt_of (by assumption) | exact allLt_left (by assumption) | exact allLt_right (by assumption))
    case LT => assumption
  · show LDoes w 290 2 _ rest [_]
    intro dp un gd env outer A₀ base h₀ L m mean mg mb s Q E HA hd hu hret
    obtain ⟨B, F, X, N, T, fr, kd⟩ := HA
    refine wpAny_call ?_
    k_dflt ktr_enter
    (repeat' (first | ((with_reducible show wpAny _ _ _ _ _ (Shared.mk _ _ _ (_ + 1 + 1) _)); (refine forgetT ?_); (intro tk9); (try dsimp only)) | ((with_reducible show wpAny _ _ (PySem.exec _ _) _ _ _); ((fail_if_success (refine' hidden_test ?hQ ?_; (case hQ => with_reducible assumption))); (refine' hideQ ?_); (intro Q9 hQ9))) | (k_unfold; (try dsimp only)) | (k_end; wrow_close) | with_reducible (k_here; (with_reducible show wpAny _ _ (getItem (Value.ref _) (Value.str _ _)) _ _ _); k_dflt (refine kdt_getItem (knd := PySem.strKind _ _) (by k_asm) (by k_mem) (by k_asm) (strKind_is _ _ _ _) (by rfl) ?_)) | with_reducible (k_here; (with_reducible show wpAny _ _ (subscriptTail _ _ (Value.ref _) (Value.str _ _)) _ _ _); k_dflt (refine kdt_tail (knd := PySem.strKind _ _) (by k_asm) (by k_mem) (by k_asm) ?_)) | with_reducible (k_here; (with_reducible show wpAny _ _ (compareOp _ (Value.str _ _) (Value.ref _)) _ _ _); k_dflt (first | refine kda_in (knd := PySem.strKind _ _) (by k_asm) (by k_mem) (by k_asm) (by k_asm) (strKind_is _ _ _ _) true (by rfl) ?_ | refine kda_in (knd := PySem.strKind _ _) (by k_asm) (by k_mem) (by k_asm) (by k_asm) (strKind_is _ _ _ _) false (by rfl) ?_)) | walk1 | ((refine' Hid.use ?hQ ?_); (case hQ => with_reducible assumption); (try dsimp only)) | dsimp only | (leave1; (try dsimp only)) | fail "no step"))
    (repeat ((rename _ ∧ _ => hAnd); (obtain ⟨_, _⟩ := hAnd)))
    refine' LDoes.fin1 hret ?F ?N ?S ?D ?D2 ?LT
    case F => assumption
    case N => assumption
    case S => tb_start
    case D => (first | assumption | exact PySem.W.allLt_of (by assumption) | exact allLt_left (by assumption) | exact allLt_right (by assumption))
    case D2 => (first | assumption | exact PySem.W.allLt_of (by assumption) | exact allLt_left (by assumption) | exact allLt_right (by assumption))
    case LT => assumption
  · show LDoes w 290 2 _ rest [_]
    intro dp un gd env outer A₀ base h₀ L m mean mg mb s Q E HA hd hu hret
    obtain ⟨B, F, X, N, T, fr, kd⟩ := HA
    refine wpAny_call ?_
    k_dflt ktr_enter
    (repeat' (first | ((with_reducible show wpAny _ _ _ _ _ (Shared.mk _ _ _ (_ + 1 + 1) _)); (refine forgetT ?_); (intro tk9); (try dsimp only)) | ((with_reducible show wpAny _ _ (PySem.exec _ _) _ _ _); ((fail_if_success (refine' hidden_test ?hQ ?_; (case hQ => with_reducible assumption))); (refine' hideQ ?_); (intro Q9 hQ9))) | (k_unfold; (try dsimp only)) | (k_end; wrow_close) | with_reducible (k_here; (with_reducible show wpAny _ _ (getItem (Value.ref _) (Value.str _ _)) _ _ _); k_dflt (refine kdt_getItem (knd := PySem.strKind _ _) (by k_asm) (by k_mem) (by k_asm) (strKind_is _ _ _ _) (by rfl) ?_)) | with_reducible (k_here; (with_reducible show wpAny _ _ (subscriptTail _ _ (Value.ref _) (Value.str _ _)) _ _ _); k_dflt (refine kdt_tail (knd := PySem.strKind _ _) (by k_asm) (by k_mem) (by k_asm) ?_)) | with_reducible (k_here; (with_reducible show wpAny _ _ (compareOp _ (Value.str _ _) (Value.ref _)) _ _ _); k_dflt (first | refine kda_in (knd := PySem.strKind _ _) (by k_asm) (by k_mem) (by k_asm) (by k_asm) (strKind_is _ _ _ _) true (by rfl) ?_ | refine kda_in (knd := PySem.strKind _ _) (by k_asm) (by k_mem) (by k_asm) (by k_asm) (strKind_is _ _ _ _) false (by rfl) ?_)) | walk1 | ((refine' Hid.use ?hQ ?_); (case hQ => with_reducible assumption); (try dsimp only)) | dsimp only | (leave1; (try dsimp only)) | fail "no step"))
    (repeat ((rename _ ∧ _ => hAnd); (obtain ⟨_, _⟩ := hAnd)))
    refine' LDoes.fin1 hret ?F ?N ?S ?D ?D2 ?LT
    case F => assumption
    case N => assumption
    case S => tb_start
    case D => (first | assumption | exact PySem.W.allLt_of (by assumption) | exact allLt_left (by assumption) | exact allLt_right (by assumption))
    case D2 => (first | assumption | exact PySem.W.allLt_of (by assumption) | exact allLt_left (by assumption) | exact allLt_right (by assumption))
    case LT => assumption
open PySem PySem.W PySem.Calls PyProof.Rows PySem.Spec

section
variable {prog : Program} {w : World} {A : Around} {s₂ : Shared} {env : Env} {h₀ : Heap}

abbrev ovr5 (m : Str → OV) (x1 x2 x3 x4 x5 : Str) (u1 u2 u3 u4 u5 : OV) : Str → OV := fun z => if z = x1 then u1 else if z = x2 then u2 else if z = x3 then u3 else if z = x4 then u4 else if z = x5 then u5 else m z
theorem ovr5_eq {m m' : Str → OV} {x1 x2 x3 x4 x5 : Str} (h : ∀ z, z ≠ x1 → z ≠ x2 → z ≠ x3 → z ≠ x4 → z ≠ x5 → m' z = m z) : ovr5 m x1 x2 x3 x4 x5 (m' x1) (m' x2) (m' x3) (m' x4) (m' x5) = m' := by
  funext z
  dsimp only [ovr5]
  by_cases h1 : z = x1
  · subst h1; simp
  · by_cases h2 : z = x2
    · subst h2; simp [h1]
    · by_cases h3 : z = x3
      · subst h3; simp [h1, h2]
      · by_cases h4 : z = x4
        · subst h4; simp [h1, h2, h3]
        · by_cases h5 : z = x5
          · subst h5; simp [h1, h2, h3, h4]
          · simp [h1, h2, h3, h4, h5, h z h1 h2 h3 h4 h5]

/-- a turn's end over the list of what was found -/
def FoundEnd (h₀ : Heap) (L : Addr) (m : Str → OV) (x1 x2 x3 x4 x5 : Str) (base nb own S : Led) (rows : Rws) (D : OV → OV → OV → OV → Prop) (s₁ : Shared) (Q : Flow → Shared → Prop) (f : Flow) (s₃ : Shared) : Prop :=
  match f with
  | .ret v => Q (.ret v) s₃
  | .brk => Q .next s₃
  | _ => ∃ h' tk' m' a vs n tl2, s₃ = { s₁ with heap := h', toks := tk' } ∧ Fr h₀ L h' m' ∧ News h₀ L h' ((a, listOf vs.toArray n) :: (nb ++ own ++ tl2)) ∧ Above (nb ++ own) tl2 ∧ Off a nb ∧ Off a own ∧ Off a tl2 ∧ AllLt a base ∧ RowsIn (S ++ tl2) vs rows ∧
      (∀ z, z ≠ x1 → z ≠ x2 → z ≠ x3 → z ≠ x4 → z ≠ x5 → m' z = m z) ∧ m' x4 = some (.ref a) ∧ D (m' x1) (m' x2) (m' x3) (m' x5)
theorem FoundEnd.intro {h' : Heap} {L : Addr} {m m' : Str → OV} {x1 x2 x3 x4 x5 : Str} {base nb own S S' tl2 led : Led} {rows rows' : Rws} {D : OV → OV → OV → OV → Prop} {s₁ : Shared} {Q : Flow → Shared → Prop} {tk' : Nat} {a : Addr} {vs : List Value} {n : Nat}
    (F : Fr h₀ L h' m') (N : News h₀ L h' led) (P : (a, listOf vs.toArray n) ∈ led) (hx : m' x4 = some (.ref a)) (hR : RowsIn S' vs rows') (hS : ∀ p ∈ S', p ∈ S ++ tl2) (hr : rows' = rows) (hs : ∀ p ∈ nb ++ own ++ tl2, p ∈ led) (hab : Above (nb ++ own) tl2) (o1 : Off a nb) (o2 : Off a own) (o3 : Off a tl2) (hb : AllLt a base)
    (hm : ∀ z, z ≠ x1 → z ≠ x2 → z ≠ x3 → z ≠ x4 → z ≠ x5 → m' z = m z) (hD : D (m' x1) (m' x2) (m' x3) (m' x5)) :
    FoundEnd h₀ L m x1 x2 x3 x4 x5 base nb own S rows D s₁ Q .next { s₁ with heap := h', toks := tk' } :=
  ⟨h', tk', m', a, vs, n, tl2, rfl, F, fun p hp => by
    rcases List.mem_cons.mp hp with rfl | hp
    · exact N _ P
    · exact N p (hs p hp), hab, o1, o2, o3, hb, hr ▸ hR.mono hS, hm, hx, hD⟩

/-- a loop over a tuple, each item adds its rows to the list under x4 -/
theorem for_found {I a0 t : Addr} {base nb S : Led} {fp wr : List Addr} {items vs0 : List Value} {k k0 : Nat} {St : Nat → Heap → Prop} {m : Str → OV} {target : Expr} {body : List Stmt} {Q : Flow → Shared → Prop} {r0 : Rws} {rss : List Rws} (x1 x2 x3 x4 x5 : Str) (Rel : Value → Rws → Prop) (D : Nat → OV → OV → OV → OV → Prop)
    (hp : Paired Rel items rss)
    (x : Iter prog w A h₀ env.locals ((a0, listOf vs0.toArray k0) :: nb) [(t, ({ cls := .type "tuple", data := .seq items.toArray k } : Obj))] I fp wr items.length (fun i v => items[i]? = some v) St s₂.heap) (F : Fr h₀ env.locals s₂.heap m) (N : News h₀ env.locals s₂.heap ((a0, listOf vs0.toArray k0) :: nb)) (ht : (t, ({ cls := .type "tuple", data := .seq items.toArray k } : Obj)) ∈ nb)
    (hx0 : m x4 = some (.ref a0)) (hR0 : RowsIn S vs0 r0) (ho0 : Off a0 nb) (hb0 : AllLt a0 base) (hlen : r0.length + rss.flatten.length ≤ 90000) (hD : D 0 (m x1) (m x2) (m x3) (m x5))
    (hgo : ∀ i (s' : Shared) v (Q' : Unit → Shared → Prop) E', St i s'.heap → Q' () s' → wpAny (model prog w) A (letOwnedTupleGo target (.ref I) v) Q' E' s')
    (turn : ∀ (i : Nat) (v : Value) rows u1 u2 u3 u5 a vs n tl own cur h tk E', items[i]? = some v → rss[i]? = some rows → Rel v rows → cur.length + rows.length ≤ 90000 → D i u1 u2 u3 u5 → RowsIn (S ++ tl) vs cur → Off a nb → Off a tl → Off a own → AllLt a base →
      Fr h₀ env.locals h (ovr5 m x1 x2 x3 x4 x5 u1 u2 u3 (some (.ref a)) u5) → News h₀ env.locals h ((a, listOf vs.toArray n) :: (nb ++ (tl ++ own))) →
      wpAny (model prog w) A (assign target env v) (fun _ s₃ => wpAny (model prog w) A (execs body env) (FoundEnd h₀ env.locals m x1 x2 x3 x4 x5 base nb (tl ++ own) (S ++ tl) (cur ++ rows) (D (i + 1)) { s₂ with heap := h, toks := tk } Q) E' s₃) E' { s₂ with heap := h, toks := tk })
    (done : ∀ u1 u2 u3 u5 a vs n tl h tk, RowsIn (S ++ tl) vs (r0 ++ rss.flatten) → Above nb tl → Off a nb → Off a tl → AllLt a base → D items.length u1 u2 u3 u5 → Fr h₀ env.locals h (ovr5 m x1 x2 x3 x4 x5 u1 u2 u3 (some (.ref a)) u5) → News h₀ env.locals h ((a, listOf vs.toArray n) :: (nb ++ tl)) → Q .next { s₂ with heap := h, toks := tk }) :
    ForAt prog w A h₀ env target body Q (.ref I) s₂ := by
  refine ⟨I, fp, wr, items.length, _, St, m, _, _, fun i m' nx => ∃ u1 u2 u3 u5 a vs n tl, m' = ovr5 m x1 x2 x3 x4 x5 u1 u2 u3 (some (.ref a)) u5 ∧ nx = (a, listOf vs.toArray n) :: (nb ++ tl) ∧ RowsIn (S ++ tl) vs (r0 ++ (rss.take i).flatten) ∧ Above nb tl ∧ Off a nb ∧ Off a tl ∧ AllLt a base ∧ D i u1 u2 u3 u5, rfl, x, F, N,
    ⟨m x1, m x2, m x3, m x5, a0, vs0, k0, [], ?_, by rw [List.append_nil], by simpa using hR0, above_nil, ho0, (fun _ h => nomatch h), hb0, hD⟩, ?_, hgo, ?_, ?_⟩
  · rw [← hx0]; exact (ovr5_eq fun _ _ _ _ _ _ => rfl).symm
  · rintro i m' nx ⟨u1, u2, u3, u5, a, vs, n, tl, _, rfl, _⟩ p hp'
    rw [List.mem_singleton.mp hp']
    exact .tail _ (List.mem_append.mpr (.inl ht))
  · rintro i v m₁ nx own h tk E' hin hP ⟨u1, u2, u3, u5, a, vs, n, tl, rfl, rfl, hR, hab, o1, o2, hb, hD'⟩ hown F' N'
    obtain ⟨rows, hr, hrel⟩ := paired_get hp i v hP
    have hfl := flat_take hr
    have hle := flat_le (rss := rss) (i + 1)
    rw [hfl, List.length_append] at hle
    refine wpAny_mono (turn i v rows u1 u2 u3 u5 a vs n tl own _ h tk E' hP hr hrel (by rw [List.length_append]; omega) hD' hR o1 o2 (fun p hp e => hown p hp _ (.head _) e) hb F' (News.sub N' fun p hp => ?_)) (fun _ s₃ h₃ => wpAny_mono h₃ (fun f s₄ h₄ => ?_) fun _ _ e => e) fun _ _ e => e
    · rcases List.mem_cons.mp hp with rfl | hp
      · exact List.mem_append.mpr (.inl (.head _))
      · rcases List.mem_append.mp hp with hp | hp
        · exact List.mem_append.mpr (.inl (.tail _ (List.mem_append.mpr (.inl hp))))
        · rcases List.mem_append.mp hp with hp | hp
          · exact List.mem_append.mpr (.inl (.tail _ (List.mem_append.mpr (.inr hp))))
          · exact List.mem_append.mpr (.inr hp)
    · have fin : (∃ h' tk' m' a' vs' n' tl2, s₄ = { ({ s₂ with heap := h, toks := tk } : Shared) with heap := h', toks := tk' } ∧ Fr h₀ env.locals h' m' ∧ News h₀ env.locals h' ((a', listOf vs'.toArray n') :: (nb ++ (tl ++ own) ++ tl2)) ∧ Above (nb ++ (tl ++ own)) tl2 ∧ Off a' nb ∧ Off a' (tl ++ own) ∧ Off a' tl2 ∧ AllLt a' base ∧ RowsIn (S ++ tl ++ tl2) vs' (r0 ++ (rss.take i).flatten ++ rows) ∧
          (∀ z, z ≠ x1 → z ≠ x2 → z ≠ x3 → z ≠ x4 → z ≠ x5 → m' z = m z) ∧ m' x4 = some (.ref a') ∧ D (i + 1) (m' x1) (m' x2) (m' x3) (m' x5)) →
          LedEnd h₀ env.locals own (fun m' nx => ∃ u1 u2 u3 u5 a vs n tl, m' = ovr5 m x1 x2 x3 x4 x5 u1 u2 u3 (some (.ref a)) u5 ∧ nx = (a, listOf vs.toArray n) :: (nb ++ tl) ∧ RowsIn (S ++ tl) vs (r0 ++ (rss.take (i + 1)).flatten) ∧ Above nb tl ∧ Off a nb ∧ Off a tl ∧ AllLt a base ∧ D (i + 1) u1 u2 u3 u5) { s₂ with heap := h, toks := tk } s₄ := by
        rintro ⟨h', tk', m', a', vs', n', tl2, rfl, F₃, N₃, hab₃, p1, p2, p3, hb₃, hR₃, hm, hx, hD₃⟩
        refine ⟨h', tk', m', _, (a', listOf vs'.toArray n') :: (nb ++ (tl ++ tl2)), rfl, F₃, N₃, ?_, ?_, ?_, m' x1, m' x2, m' x3, m' x5, a', vs', n', tl ++ tl2, ?_, rfl, ?_, ?_, p1, ?_, hb₃, hD₃⟩
        · intro p hp
          rcases List.mem_cons.mp hp with rfl | hp
          · exact .head _
          · refine .tail _ ?_
            rcases List.mem_append.mp hp with hp | hp
            · exact List.mem_append.mpr (.inl (List.mem_append.mpr (.inl hp)))
            · rcases List.mem_append.mp hp with hp | hp
              · exact List.mem_append.mpr (.inl (List.mem_append.mpr (.inr (List.mem_append.mpr (.inl hp)))))
              · exact List.mem_append.mpr (.inr hp)
        · intro p hp
          exact .tail _ (List.mem_append.mpr (.inl (List.mem_append.mpr (.inr (List.mem_append.mpr (.inr hp))))))
        · intro p hp q hq
          rcases List.mem_cons.mp hq with rfl | hq
          · exact p2 p (List.mem_append.mpr (.inr hp))
          · rcases List.mem_append.mp hq with hq | hq
            · exact hown p hp q (.tail _ (List.mem_append.mpr (.inl hq)))
            · rcases List.mem_append.mp hq with hq | hq
              · exact hown p hp q (.tail _ (List.mem_append.mpr (.inr hq)))
              · exact Nat.ne_of_lt (hab₃ p (List.mem_append.mpr (.inr (List.mem_append.mpr (.inr hp)))) q hq)
        · rw [← hx]
          exact (ovr5_eq hm).symm
        · rw [hfl, ← List.append_assoc, ← List.append_assoc]; exact hR₃
        · exact hab.append (hab₃.weak fun p hp => List.mem_append.mpr (.inl hp))
        · intro p hp
          exact (List.mem_append.mp hp).elim (fun h => p2 p (List.mem_append.mpr (.inl h))) (p3 p)
      cases f with
      | ret v => exact h₄
      | brk => exact h₄
      | next => exact fin h₄
      | cont => exact fin h₄
  · rintro m₁ nx h tk ⟨u1, u2, u3, u5, a, vs, n, tl, rfl, rfl, hR, hab, o1, o2, hb, hD'⟩ F' N'
    rw [List.take_of_length_le (by rw [Paired.length hp]; exact Nat.le_refl _)] at hR
    exact done u1 u2 u3 u5 a vs n tl h tk hR hab o1 o2 hb hD' F' N'
end
open PySem PySem.W PySem.Calls PyProof.Rows PySem.Spec
theorem frag_on26 : (hdS.heap_1 = hdS.heap_1 ∧ PySem.Challenge.rw_on0122_01 = PySem.Challenge.rw_on0122_01) := by
  k_fill
  exact ⟨rfl, rfl⟩

def RowsC (w : World) (n c : Nat) : Prop := ∀ {rest : Led} {v : Value} {rows : Bool → Rws} {b : Bool}, StIn rest n v rows → (rows b).length ≤ 90000 → LDoes w 297 c [v, .bool b] rest (rows b)
def CaseRowsC (w : World) (n c : Nat) : Prop := ∀ {rest : Led} {v : Value} {rows : Bool → Rws} {b : Bool}, CaseIn rest (StIn rest n) v rows → (rows b).length ≤ 90000 → LDoes w 297 c [v, .bool b] rest (rows b)
theorem RowsC.use {w : World} {n c : Nat} (h : RowsC w n c) {rest : Led} {v : Value} {rows : Bool → Rws} {b : Bool} (hs : StIn rest n v rows) (hl : (rows b).length ≤ 90000) : LDoes w 297 c [v, .bool b] rest (rows b) := h hs hl
theorem off_cons {a D : Addr} {o : Obj} {tl : Led} (h : @LT.lt Nat _ D a) (k : Off a tl) : Off a ((D, o) :: tl) := fun p hp => by
  rcases List.mem_cons.mp hp with rfl | hp
  · exact Nat.ne_of_lt h
  · exact k p hp
theorem row_at {led : Led} {T : Addr} {n : Nat} {kd : String} {i : Int} {x : Str} {t0 t1 t2 : Tok} (h : (T, tupO [tx kd t0, .int i t1, .str x t2] n) ∈ led) : RowIn led (.ref T) (row kd i x) := ⟨T, n, kd, t0, i, t1, x, t2, rfl, h, rfl⟩

theorem LDoes.finT {rest led tl1 tl2 : Led} {r1 r2 : Rws} {h₀ h' : Heap} {L D T : Addr} {m : Str → Option Value} {s : Shared} {Q : Value → Shared → Prop} {tk' : Nat} {vs1 vs2 : List Value} {k n : Nat} {kd : String} {i : Int} {x : Str} {t0 t1 t2 : Tok}
    (hret : ∀ r post h' tk', Fr h₀ L h' m → News h₀ L h' post → (∃ tl, post = rest ++ tl ∧ (∀ q ∈ rest, ∀ p ∈ tl, @LT.lt Nat _ q.1 p.1) ∧ LPost ([row kd i x] ++ r1 ++ r2) r tl) → Q r { s with heap := h', toks := tk' })
    (F' : Fr h₀ L h' m) (N' : News h₀ L h' led) (hm : (D, listOf ((.ref T :: vs1) ++ vs2).toArray k) ∈ led) (hT : (T, tupO [tx kd t0, .int i t1, .str x t2] n) ∈ led) (h1 : RowsIn tl1 vs1 r1) (h2 : RowsIn tl2 vs2 r2) (hs : ∀ p ∈ rest ++ (tl1 ++ tl2), p ∈ led) (hD : AllLt D rest) (hDT : @LT.lt Nat _ T D) (oD : Off D (tl1 ++ tl2)) (hTr : AllLt T rest) (hab : Above rest (tl1 ++ tl2)) :
    Q (.ref D) { s with heap := h', toks := tk' } :=
  LDoes.fin (tl := (T, tupO [tx kd t0, .int i t1, .str x t2] n) :: (tl1 ++ tl2)) hret F' N' hm (fun p hp => by
    rcases List.mem_append.mp hp with hp | hp
    · exact hs p (List.mem_append.mpr (.inl hp))
    · rcases List.mem_cons.mp hp with rfl | hp
      · exact hT
      · exact hs p (List.mem_append.mpr (.inr hp))) hD (fun p hp => by
    rcases List.mem_cons.mp hp with rfl | hp
    · exact Nat.ne_of_lt hDT
    · exact oD p hp) (Above.cons hTr hab) (paired_append (.cons (row_at (.head _)) (h1.mono fun _ h => .tail _ (List.mem_append.mpr (.inl h)))) (h2.mono fun _ h => .tail _ (List.mem_append.mpr (.inr h))))

set_option maxHeartbeats 8000000 in
theorem setRows {w : World} {rest : Led} {v : Value} {rows : Bool → Rws} {b : Bool} (hS : SetIn rest v rows) : LDoes w 297 5 [v, .bool b] rest (rows b) := by
  have hc0 : ExRowsC w 1 4 := exRows1
  have hc1 : TgRowsC w 2 := tgRows0
  obtain ⟨a, n, t0, i, t1, b1, nb, t2, i2, t3, x, t4, e, re, rfl, hm, hb, hw, hE, rfl⟩ := hS
  have hL1 : re.length ≤ 2 := exLen hE
  have hL2 : (tgRows i2 x).length ≤ 1 := tgLen
  show LDoes w 297 5 _ rest (tgRows i2 x ++ re)
  intro dp un gd env outer A₀ base h₀ L m mean mg mb s Q E HA hd hu hret
  obtain ⟨B, F, X, N, T, fr, kd⟩ := HA
  refine wpAny_call ?_
  k_dflt ktr_enter
  (repeat' (first | ((with_reducible show wpAny _ _ _ _ _ (Shared.mk _ _ _ (_ + 1 + 1) _)); (refine forgetT ?_); (intro tk9); (try dsimp only)) | ((with_reducible show wpAny _ _ (PySem.exec _ _) _ _ _); ((fail_if_success (refine' hidden_test ?hQ ?_; (case hQ => with_reducible assumption))); (refine' hideQ ?_); (intro Q9 hQ9))) | (k_unfold; (try dsimp only)) | (k_end; wrow_close) | ((with_reducible show wpAny _ _ (call _ _ _) _ _ _); (first | with_reducible (k_here; (with_reducible show wpAny _ _ (call (Value.ref 297) [_, Value.bool _] _) _ _ _); k_dflt (refine' LDoes.use ?k1 ?k2 ?k3 ?k4 ?k5 ?k6 ?k7 (RowsC.use ?h0 ?h1 ?h2) ?kd ?ku ?_; (case k1 => k_asm); (case k2 => k_asm); (case k3 => k_asm); (case k4 => k_asm); (case k5 => k_asm); (case k6 => first | exact rfl | assumption); (case k7 => first | exact rfl | assumption); (case h0 => assumption); (case h1 => first | assumption | exact StIn.up (by assumption) (by tb_start)); (case h2 => first | assumption | omega | (dsimp only; omega)); (case kd => (try dsimp only [Around.deeper]); omega); (case ku => (try dsimp only [Around.deeper]); omega)); (intro a' vs' n' tl' h' tk' F' N' hl' ho1' ho2' hab' hr'); (have hlen' := Paired.length hr'); (try simp only [List.nil_append, List.cons_append, List.append_nil, List.append_assoc] at N'); (try k_sweep); (try dsimp only); (try k_fold)) | with_reducible (k_here; (with_reducible show wpAny _ _ (call (Value.ref 290) [_] _) _ _ _); k_dflt (refine' LDoes.use ?k1 ?k2 ?k3 ?k4 ?k5 ?k6 ?k7 (TgRowsC.use ?h0 ?h1 ?h2) ?kd ?ku ?_; (case k1 => k_asm); (case k2 => k_asm); (case k3 => k_asm); (case k4 => k_asm); (case k5 => k_asm); (case k6 => first | exact rfl | assumption); (case k7 => first | exact rfl | assumption); (case h0 => assumption); (case h1 => k_mem); (case h2 => assumption); (case kd => (try dsimp only [Around.deeper]); omega); (case ku => (try dsimp only [Around.deeper]); omega)); (intro a' vs' n' tl' h' tk' F' N' hl' ho1' ho2' hab' hr'); (have hlen' := Paired.length hr'); (try simp only [List.nil_append, List.cons_append, List.append_nil, List.append_assoc] at N'); (try k_sweep); (try dsimp only); (try k_fold)) | with_reducible (k_here; (with_reducible show wpAny _ _ (call (Value.ref 283) [_] _) _ _ _); k_dflt (refine' LDoes.use ?k1 ?k2 ?k3 ?k4 ?k5 ?k6 ?k7 (ExRowsC.use ?h0 ?h1) ?kd ?ku ?_; (case k1 => k_asm); (case k2 => k_asm); (case k3 => k_asm); (case k4 => k_asm); (case k5 => k_asm); (case k6 => first | exact rfl | assumption); (case k7 => first | exact rfl | assumption); (case h0 => assumption); (case h1 => first | assumption | exact ExIn.up (by assumption) (by tb_start)); (case kd => (try dsimp only [Around.deeper]); omega); (case ku => (try dsimp only [Around.deeper]); omega)); (intro a' vs' n' tl' h' tk' F' N' hl' ho1' ho2' hab' hr'); (have hlen' := Paired.length hr'); (try simp only [List.nil_append, List.cons_append, List.append_nil, List.append_assoc] at N'); (try k_sweep); (try dsimp only); (try k_fold)) | with_reducible (k_here; (with_reducible show wpAny _ _ (call (Value.builtin _) [Value.ref _, _]) _ _ _); k_dflt (refine' append_led ?k1 ?k2 ?k3 ?z ?_; (case k1 => k_asm); (case k2 => k_asm); (case k3 => k_upd); (case z => omega)); intro h' F' N'; (try k_sweep)))) | with_reducible (k_here; (with_reducible show wpAny _ _ (binaryOp _ (Value.ref _) (Value.ref _)) _ _ _); k_dflt (refine' add_led ?F ?N ?a ?b ?z ?_; (case F => k_asm); (case N => k_asm); (case a => k_mem); (case b => k_mem); (case z => first | omega | (simp only [List.length_append, List.length_cons, List.length_nil] at *; omega))); intro D' h' F' N' l1; (try k_lt l1); (try k_sweep)) | walk1 | ((refine' Hid.use ?hQ ?_); (case hQ => with_reducible assumption); (try dsimp only)) | dsimp only | (leave1; (try dsimp only)) | fail "no step"))
  (repeat ((rename _ ∧ _ => hAnd); (obtain ⟨_, _⟩ := hAnd)))
  refine' LDoes.fin hret ?F ?N (.head _) ?S ?D ?O ?A ?R
  case F => assumption
  case N => assumption
  case R => exact paired_append (RowsIn.mono (fun _ h => List.mem_append.mpr (.inl h)) (by assumption)) (RowsIn.mono (fun _ h => List.mem_append.mpr (.inr h)) (by assumption))
  case D => (first | assumption | exact PySem.W.allLt_of (by assumption) | exact allLt_left (by assumption) | exact allLt_right (by assumption))
  case O => (first | assumption | exact off_of (by (first | assumption | exact PySem.W.allLt_of (by assumption) | exact allLt_left (by assumption) | exact allLt_right (by assumption))) | k_all)
  case A => tb_rel
  case S => tb_start

set_option maxHeartbeats 8000000 in
theorem noneRows {w : World} {rest : Led} {b : Bool} : LDoes w 297 1 [.none, .bool b] rest [] := by
  intro dp un gd env outer A₀ base h₀ L m mean mg mb s Q E HA hd hu hret
  obtain ⟨B, F, X, N, T, fr, kd⟩ := HA
  refine wpAny_call ?_
  k_dflt ktr_enter
  (repeat' (first | ((with_reducible show wpAny _ _ _ _ _ (Shared.mk _ _ _ (_ + 1 + 1) _)); (refine forgetT ?_); (intro tk9); (try dsimp only)) | ((with_reducible show wpAny _ _ (PySem.exec _ _) _ _ _); ((fail_if_success (refine' hidden_test ?hQ ?_; (case hQ => with_reducible assumption))); (refine' hideQ ?_); (intro Q9 hQ9))) | (k_unfold; (try dsimp only)) | (k_end; wrow_close) | ((with_reducible show wpAny _ _ (call _ _ _) _ _ _); (first | with_reducible (k_here; (with_reducible show wpAny _ _ (call (Value.ref 297) [_, Value.bool _] _) _ _ _); k_dflt (refine' LDoes.use ?k1 ?k2 ?k3 ?k4 ?k5 ?k6 ?k7 (RowsC.use ?h0 ?h1 ?h2) ?kd ?ku ?_; (case k1 => k_asm); (case k2 => k_asm); (case k3 => k_asm); (case k4 => k_asm); (case k5 => k_asm); (case k6 => first | exact rfl | assumption); (case k7 => first | exact rfl | assumption); (case h0 => assumption); (case h1 => first | assumption | exact StIn.up (by assumption) (by tb_start)); (case h2 => first | assumption | omega | (dsimp only; omega)); (case kd => (try dsimp only [Around.deeper]); omega); (case ku => (try dsimp only [Around.deeper]); omega)); (intro a' vs' n' tl' h' tk' F' N' hl' ho1' ho2' hab' hr'); (have hlen' := Paired.length hr'); (try simp only [List.nil_append, List.cons_append, List.append_nil, List.append_assoc] at N'); (try k_sweep); (try dsimp only); (try k_fold)) | with_reducible (k_here; (with_reducible show wpAny _ _ (call (Value.ref 290) [_] _) _ _ _); k_dflt (refine' LDoes.use ?k1 ?k2 ?k3 ?k4 ?k5 ?k6 ?k7 (TgRowsC.use ?h0 ?h1 ?h2) ?kd ?ku ?_; (case k1 => k_asm); (case k2 => k_asm); (case k3 => k_asm); (case k4 => k_asm); (case k5 => k_asm); (case k6 => first | exact rfl | assumption); (case k7 => first | exact rfl | assumption); (case h0 => assumption); (case h1 => k_mem); (case h2 => assumption); (case kd => (try dsimp only [Around.deeper]); omega); (case ku => (try dsimp only [Around.deeper]); omega)); (intro a' vs' n' tl' h' tk' F' N' hl' ho1' ho2' hab' hr'); (have hlen' := Paired.length hr'); (try simp only [List.nil_append, List.cons_append, List.append_nil, List.append_assoc] at N'); (try k_sweep); (try dsimp only); (try k_fold)) | with_reducible (k_here; (with_reducible show wpAny _ _ (call (Value.ref 283) [_] _) _ _ _); k_dflt (refine' LDoes.use ?k1 ?k2 ?k3 ?k4 ?k5 ?k6 ?k7 (ExRowsC.use ?h0 ?h1) ?kd ?ku ?_; (case k1 => k_asm); (case k2 => k_asm); (case k3 => k_asm); (case k4 => k_asm); (case k5 => k_asm); (case k6 => first | exact rfl | assumption); (case k7 => first | exact rfl | assumption); (case h0 => assumption); (case h1 => first | assumption | exact ExIn.up (by assumption) (by tb_start)); (case kd => (try dsimp only [Around.deeper]); omega); (case ku => (try dsimp only [Around.deeper]); omega)); (intro a' vs' n' tl' h' tk' F' N' hl' ho1' ho2' hab' hr'); (have hlen' := Paired.length hr'); (try simp only [List.nil_append, List.cons_append, List.append_nil, List.append_assoc] at N'); (try k_sweep); (try dsimp only); (try k_fold)) | with_reducible (k_here; (with_reducible show wpAny _ _ (call (Value.builtin _) [Value.ref _, _]) _ _ _); k_dflt (refine' append_led ?k1 ?k2 ?k3 ?z ?_; (case k1 => k_asm); (case k2 => k_asm); (case k3 => k_upd); (case z => omega)); intro h' F' N'; (try k_sweep)))) | with_reducible (k_here; (with_reducible show wpAny _ _ (binaryOp _ (Value.ref _) (Value.ref _)) _ _ _); k_dflt (refine' add_led ?F ?N ?a ?b ?z ?_; (case F => k_asm); (case N => k_asm); (case a => k_mem); (case b => k_mem); (case z => first | omega | (simp only [List.length_append, List.length_cons, List.length_nil] at *; omega))); intro D' h' F' N' l1; (try k_lt l1); (try k_sweep)) | walk1 | ((refine' Hid.use ?hQ ?_); (case hQ => with_reducible assumption); (try dsimp only)) | dsimp only | (leave1; (try dsimp only)) | fail "no step"))
  (repeat ((rename _ ∧ _ => hAnd); (obtain ⟨_, _⟩ := hAnd)))
  refine' LDoes.fin0 hret ?F ?N ?S ?D
  case F => assumption
  case N => assumption
  case S => tb_start
  case D => (first | assumption | exact PySem.W.allLt_of (by assumption) | exact allLt_left (by assumption) | exact allLt_right (by assumption))

set_option maxHeartbeats 8000000 in
theorem delayRows {w : World} {n c : Nat} (hC : RowsC w n c) (hcc : 4 ≤ c) {rest : Led} {v : Value} {rows : Bool → Rws} {b : Bool} (hS : DelayIn rest (StIn rest n) v rows) (hlen : (rows b).length ≤ 90000) : LDoes w 297 (c + 1) [v, .bool b] rest (rows b) := by
  have hc0 : ExRowsC w 1 4 := exRows1
  obtain ⟨a, n1, t0, i, t1, e, re, st, rs, rfl, hm, hE, hst, rfl⟩ := hS
  have hL1 : re.length ≤ 2 := exLen hE
  cases b
  · dsimp only at hlen
    simp only [Bool.false_eq_true, if_false, List.length_append, List.length_cons, List.length_nil] at hlen
    show LDoes w 297 _ _ rest ([_] ++ re ++ rs false)
    intro dp un gd env outer A₀ base h₀ L m mean mg mb s Q E HA hd hu hret
    obtain ⟨B, F, X, N, T, fr, kd⟩ := HA
    refine wpAny_call ?_
    k_dflt ktr_enter
    (repeat' (first | ((with_reducible show wpAny _ _ _ _ _ (Shared.mk _ _ _ (_ + 1 + 1) _)); (refine forgetT ?_); (intro tk9); (try dsimp only)) | ((with_reducible show wpAny _ _ (PySem.exec _ _) _ _ _); ((fail_if_success (refine' hidden_test ?hQ ?_; (case hQ => with_reducible assumption))); (refine' hideQ ?_); (intro Q9 hQ9))) | (k_unfold; (try dsimp only)) | (k_end; wrow_close) | ((with_reducible show wpAny _ _ (call _ _ _) _ _ _); (first | with_reducible (k_here; (with_reducible show wpAny _ _ (call (Value.ref 297) [_, Value.bool _] _) _ _ _); k_dflt (refine' LDoes.use ?k1 ?k2 ?k3 ?k4 ?k5 ?k6 ?k7 (RowsC.use ?h0 ?h1 ?h2) ?kd ?ku ?_; (case k1 => k_asm); (case k2 => k_asm); (case k3 => k_asm); (case k4 => k_asm); (case k5 => k_asm); (case k6 => first | exact rfl | assumption); (case k7 => first | exact rfl | assumption); (case h0 => assumption); (case h1 => first | assumption | exact StIn.up (by assumption) (by tb_start)); (case h2 => first | assumption | omega | (dsimp only; omega)); (case kd => (try dsimp only [Around.deeper]); omega); (case ku => (try dsimp only [Around.deeper]); omega)); (intro a' vs' n' tl' h' tk' F' N' hl' ho1' ho2' hab' hr'); (have hlen' := Paired.length hr'); (try simp only [List.nil_append, List.cons_append, List.append_nil, List.append_assoc] at N'); (try k_sweep); (try dsimp only); (try k_fold)) | with_reducible (k_here; (with_reducible show wpAny _ _ (call (Value.ref 290) [_] _) _ _ _); k_dflt (refine' LDoes.use ?k1 ?k2 ?k3 ?k4 ?k5 ?k6 ?k7 (TgRowsC.use ?h0 ?h1 ?h2) ?kd ?ku ?_; (case k1 => k_asm); (case k2 => k_asm); (case k3 => k_asm); (case k4 => k_asm); (case k5 => k_asm); (case k6 => first | exact rfl | assumption); (case k7 => first | exact rfl | assumption); (case h0 => assumption); (case h1 => k_mem); (case h2 => assumption); (case kd => (try dsimp only [Around.deeper]); omega); (case ku => (try dsimp only [Around.deeper]); omega)); (intro a' vs' n' tl' h' tk' F' N' hl' ho1' ho2' hab' hr'); (have hlen' := Paired.length hr'); (try simp only [List.nil_append, List.cons_append, List.append_nil, List.append_assoc] at N'); (try k_sweep); (try dsimp only); (try k_fold)) | with_reducible (k_here; (with_reducible show wpAny _ _ (call (Value.ref 283) [_] _) _ _ _); k_dflt (refine' LDoes.use ?k1 ?k2 ?k3 ?k4 ?k5 ?k6 ?k7 (ExRowsC.use ?h0 ?h1) ?kd ?ku ?_; (case k1 => k_asm); (case k2 => k_asm); (case k3 => k_asm); (case k4 => k_asm); (case k5 => k_asm); (case k6 => first | exact rfl | assumption); (case k7 => first | exact rfl | assumption); (case h0 => assumption); (case h1 => first | assumption | exact ExIn.up (by assumption) (by tb_start)); (case kd => (try dsimp only [Around.deeper]); omega); (case ku => (try dsimp only [Around.deeper]); omega)); (intro a' vs' n' tl' h' tk' F' N' hl' ho1' ho2' hab' hr'); (have hlen' := Paired.length hr'); (try simp only [List.nil_append, List.cons_append, List.append_nil, List.append_assoc] at N'); (try k_sweep); (try dsimp only); (try k_fold)) | with_reducible (k_here; (with_reducible show wpAny _ _ (call (Value.builtin _) [Value.ref _, _]) _ _ _); k_dflt (refine' append_led ?k1 ?k2 ?k3 ?z ?_; (case k1 => k_asm); (case k2 => k_asm); (case k3 => k_upd); (case z => omega)); intro h' F' N'; (try k_sweep)))) | with_reducible (k_here; (with_reducible show wpAny _ _ (binaryOp _ (Value.ref _) (Value.ref _)) _ _ _); k_dflt (refine' add_led ?F ?N ?a ?b ?z ?_; (case F => k_asm); (case N => k_asm); (case a => k_mem); (case b => k_mem); (case z => first | omega | (simp only [List.length_append, List.length_cons, List.length_nil] at *; omega))); intro D' h' F' N' l1; (try k_lt l1); (try k_sweep)) | walk1 | ((refine' Hid.use ?hQ ?_); (case hQ => with_reducible assumption); (try dsimp only)) | dsimp only | (leave1; (try dsimp only)) | fail "no step"))
    (repeat ((rename _ ∧ _ => hAnd); (obtain ⟨_, _⟩ := hAnd)))
    refine' LDoes.finT hret ?F ?N (.head _) ?T ?R1 ?R2 ?S ?D ?DT ?O ?TR ?A
    case F => assumption
    case N => assumption
    case R1 => assumption
    case R2 => assumption
    case T => k_mem
    case D => (first | assumption | exact PySem.W.allLt_of (by assumption) | exact allLt_left (by assumption) | exact allLt_right (by assumption))
    case DT => assumption
    case O => (first | assumption | exact off_of (by (first | assumption | exact PySem.W.allLt_of (by assumption) | exact allLt_left (by assumption) | exact allLt_right (by assumption))) | k_all)
    case TR => (first | assumption | exact PySem.W.allLt_of (by assumption) | exact allLt_left (by assumption) | exact allLt_right (by assumption))
    case A => tb_rel
    case S => tb_start
  · dsimp only at hlen
    simp only [if_true, List.length_append, List.length_nil] at hlen
    show LDoes w 297 _ _ rest ([] ++ re ++ rs true)
    intro dp un gd env outer A₀ base h₀ L m mean mg mb s Q E HA hd hu hret
    obtain ⟨B, F, X, N, T, fr, kd⟩ := HA
    refine wpAny_call ?_
    k_dflt ktr_enter
    (repeat' (first | ((with_reducible show wpAny _ _ _ _ _ (Shared.mk _ _ _ (_ + 1 + 1) _)); (refine forgetT ?_); (intro tk9); (try dsimp only)) | ((with_reducible show wpAny _ _ (PySem.exec _ _) _ _ _); ((fail_if_success (refine' hidden_test ?hQ ?_; (case hQ => with_reducible assumption))); (refine' hideQ ?_); (intro Q9 hQ9))) | (k_unfold; (try dsimp only)) | (k_end; wrow_close) | ((with_reducible show wpAny _ _ (call _ _ _) _ _ _); (first | with_reducible (k_here; (with_reducible show wpAny _ _ (call (Value.ref 297) [_, Value.bool _] _) _ _ _); k_dflt (refine' LDoes.use ?k1 ?k2 ?k3 ?k4 ?k5 ?k6 ?k7 (RowsC.use ?h0 ?h1 ?h2) ?kd ?ku ?_; (case k1 => k_asm); (case k2 => k_asm); (case k3 => k_asm); (case k4 => k_asm); (case k5 => k_asm); (case k6 => first | exact rfl | assumption); (case k7 => first | exact rfl | assumption); (case h0 => assumption); (case h1 => first | assumption | exact StIn.up (by assumption) (by tb_start)); (case h2 => first | assumption | omega | (dsimp only; omega)); (case kd => (try dsimp only [Around.deeper]); omega); (case ku => (try dsimp only [Around.deeper]); omega)); (intro a' vs' n' tl' h' tk' F' N' hl' ho1' ho2' hab' hr'); (have hlen' := Paired.length hr'); (try simp only [List.nil_append, List.cons_append, List.append_nil, List.append_assoc] at N'); (try k_sweep); (try dsimp only); (try k_fold)) | with_reducible (k_here; (with_reducible show wpAny _ _ (call (Value.ref 290) [_] _) _ _ _); k_dflt (refine' LDoes.use ?k1 ?k2 ?k3 ?k4 ?k5 ?k6 ?k7 (TgRowsC.use ?h0 ?h1 ?h2) ?kd ?ku ?_; (case k1 => k_asm); (case k2 => k_asm); (case k3 => k_asm); (case k4 => k_asm); (case k5 => k_asm); (case k6 => first | exact rfl | assumption); (case k7 => first | exact rfl | assumption); (case h0 => assumption); (case h1 => k_mem); (case h2 => assumption); (case kd => (try dsimp only [Around.deeper]); omega); (case ku => (try dsimp only [Around.deeper]); omega)); (intro a' vs' n' tl' h' tk' F' N' hl' ho1' ho2' hab' hr'); (have hlen' := Paired.length hr'); (try simp only [List.nil_append, List.cons_append, List.append_nil, List.append_assoc] at N'); (try k_sweep); (try dsimp only); (try k_fold)) | with_reducible (k_here; (with_reducible show wpAny _ _ (call (Value.ref 283) [_] _) _ _ _); k_dflt (refine' LDoes.use ?k1 ?k2 ?k3 ?k4 ?k5 ?k6 ?k7 (ExRowsC.use ?h0 ?h1) ?kd ?ku ?_; (case k1 => k_asm); (case k2 => k_asm); (case k3 => k_asm); (case k4 => k_asm); (case k5 => k_asm); (case k6 => first | exact rfl | assumption); (case k7 => first | exact rfl | assumption); (case h0 => assumption); (case h1 => first | assumption | exact ExIn.up (by assumption) (by tb_start)); (case kd => (try dsimp only [Around.deeper]); omega); (case ku => (try dsimp only [Around.deeper]); omega)); (intro a' vs' n' tl' h' tk' F' N' hl' ho1' ho2' hab' hr'); (have hlen' := Paired.length hr'); (try simp only [List.nil_append, List.cons_append, List.append_nil, List.append_assoc] at N'); (try k_sweep); (try dsimp only); (try k_fold)) | with_reducible (k_here; (with_reducible show wpAny _ _ (call (Value.builtin _) [Value.ref _, _]) _ _ _); k_dflt (refine' append_led ?k1 ?k2 ?k3 ?z ?_; (case k1 => k_asm); (case k2 => k_asm); (case k3 => k_upd); (case z => omega)); intro h' F' N'; (try k_sweep)))) | with_reducible (k_here; (with_reducible show wpAny _ _ (binaryOp _ (Value.ref _) (Value.ref _)) _ _ _); k_dflt (refine' add_led ?F ?N ?a ?b ?z ?_; (case F => k_asm); (case N => k_asm); (case a => k_mem); (case b => k_mem); (case z => first | omega | (simp only [List.length_append, List.length_cons, List.length_nil] at *; omega))); intro D' h' F' N' l1; (try k_lt l1); (try k_sweep)) | walk1 | ((refine' Hid.use ?hQ ?_); (case hQ => with_reducible assumption); (try dsimp only)) | dsimp only | (leave1; (try dsimp only)) | fail "no step"))
    (repeat ((rename _ ∧ _ => hAnd); (obtain ⟨_, _⟩ := hAnd)))
    refine' LDoes.fin hret ?F ?N (.head _) ?S ?D ?O ?A ?R
    case F => assumption
    case N => assumption
    case R => exact paired_append (paired_append .nil (RowsIn.mono (fun _ h => List.mem_append.mpr (.inl h)) (by assumption))) (RowsIn.mono (fun _ h => List.mem_append.mpr (.inr h)) (by assumption))
    case D => (first | assumption | exact PySem.W.allLt_of (by assumption) | exact allLt_left (by assumption) | exact allLt_right (by assumption))
    case O => (first | assumption | exact off_of (by (first | assumption | exact PySem.W.allLt_of (by assumption) | exact allLt_left (by assumption) | exact allLt_right (by assumption))) | k_all)
    case A => tb_rel
    case S => tb_start
open PySem PySem.W PySem.Calls PyProof.Rows PySem.Spec
theorem frag_on27 : (hdS.heap_1 = hdS.heap_1 ∧ PySem.Challenge.rw_on0122_01 = PySem.Challenge.rw_on0122_01) := by
  k_fill
  exact ⟨rfl, rfl⟩

theorem off_sub {D : Addr} {l t : Led} (h : AllLt D l) (hs : ∀ p ∈ t, p ∈ l) : Off D t := fun p hp => Nat.ne_of_lt (ktn_ltOf h p (hs p hp))
theorem allLt_sub2 {D : Addr} {l t : Led} (h : AllLt D l) (hs : ∀ p ∈ t, p ∈ l) : AllLt D t := PySem.W.allLt_of fun p hp => ktn_ltOf h p (hs p hp)
theorem LDoes.finS {rest led tl : Led} {rows r : Rws} {h₀ h' : Heap} {L D T : Addr} {m : Str → Option Value} {s : Shared} {Q : Value → Shared → Prop} {tk' : Nat} {vs : List Value} {k n : Nat} {kd : String} {i : Int} {x : Str} {t0 t1 t2 : Tok}
    (hret : ∀ r post h' tk', Fr h₀ L h' m → News h₀ L h' post → (∃ tl, post = rest ++ tl ∧ (∀ q ∈ rest, ∀ p ∈ tl, @LT.lt Nat _ q.1 p.1) ∧ LPost rows r tl) → Q r { s with heap := h', toks := tk' })
    (F' : Fr h₀ L h' m) (N' : News h₀ L h' ((T, tupO [tx kd t0, .int i t1, .str x t2] n) :: (D, listOf (vs ++ [Value.ref T]).toArray k) :: led)) (hR : RowsIn tl vs r) (e : rows = r ++ [row kd i x]) (hs : ∀ p ∈ rest ++ tl, p ∈ led) (hD : AllLt D rest) (hDT : @LT.lt Nat _ D T) (oD : Off D tl) (hTr : AllLt T rest) (hab : Above rest tl) :
    Q (.ref D) { s with heap := h', toks := tk' } := by
  subst e
  exact LDoes.fin (tl := (T, tupO [tx kd t0, .int i t1, .str x t2] n) :: tl) hret F' N' (.tail _ (.head _)) (fun p hp => by
    rcases List.mem_append.mp hp with hp | hp
    · exact .tail _ (.tail _ (hs p (List.mem_append.mpr (.inl hp))))
    · rcases List.mem_cons.mp hp with rfl | hp
      · exact .head _
      · exact .tail _ (.tail _ (hs p (List.mem_append.mpr (.inr hp))))) hD (fun p hp => by
    rcases List.mem_cons.mp hp with rfl | hp
    · exact Nat.ne_of_gt hDT
    · exact oD p hp) (Above.cons hTr hab) (Paired.snoc (hR.mono fun _ h => .tail _ h) (row_at (.head _)))

set_option maxHeartbeats 8000000 in
theorem caseRowsC {w : World} {n c : Nat} (hC : RowsC w n c) (hcc : 4 ≤ c) : CaseRowsC w n (c + 1) := by
  intro rest v rows b hS hlen
  have hc0 : ExRowsC w 1 4 := exRows1
  obtain ⟨a, n1, q0, i, q1, k1, sb, r0, b1, nb, vs, ds, rfl, hm, hE0, hb, hv4, hp, rfl⟩ := hS
  simp only [caseRows, List.length_append] at hlen
  have hL1 : r0.length ≤ 2 := exLen hE0
  have hlenD : r0.length + ((ds.map fun d => d.2 b).flatten).length ≤ 90000 := by omega
  intro dp un gd env outer A₀ base h₀ L m mean mg mb s Q E HA hd hu hret
  obtain ⟨B, F, X, N, T, fr, kd⟩ := HA
  refine wpAny_call ?_
  k_dflt ktr_enter
  repeat' (first | (fail_if_success (with_reducible show wpAny _ _ (exec (Stmt.For _ _ _ _ _) _) _ _ _)); first | ((with_reducible show wpAny _ _ _ _ _ (Shared.mk _ _ _ (_ + 1 + 1) _)); (refine forgetT ?_); (intro tk9); (try dsimp only)) | ((with_reducible show wpAny _ _ (PySem.exec _ _) _ _ _); ((fail_if_success (refine' hidden_test ?hQ ?_; (case hQ => with_reducible assumption))); (refine' hideQ ?_); (intro Q9 hQ9))) | (k_unfold; (try dsimp only)) | (k_end; wrow_close) | ((with_reducible show wpAny _ _ (call _ _ _) _ _ _); (first | with_reducible (k_here; (with_reducible show wpAny _ _ (call (Value.ref 297) [_, Value.bool _] _) _ _ _); k_dflt (refine' LDoes.use ?k1 ?k2 ?k3 ?k4 ?k5 ?k6 ?k7 (RowsC.use ?h0 ?h1 ?h2) ?kd ?ku ?_; (case k1 => k_asm); (case k2 => k_asm); (case k3 => k_asm); (case k4 => k_asm); (case k5 => k_asm); (case k6 => first | exact rfl | assumption); (case k7 => first | exact rfl | assumption); (case h0 => assumption); (case h1 => first | assumption | exact StIn.up (by assumption) (by tb_start)); (case h2 => first | assumption | omega | (dsimp only; omega)); (case kd => (try dsimp only [Around.deeper]); omega); (case ku => (try dsimp only [Around.deeper]); omega)); (intro a' vs' n' tl' h' tk' F' N' hl' ho1' ho2' hab' hr'); (have hlen' := Paired.length hr'); (try simp only [List.nil_append, List.cons_append, List.append_nil, List.append_assoc] at N'); (try k_sweep); (try dsimp only); (try k_fold)) | with_reducible (k_here; (with_reducible show wpAny _ _ (call (Value.ref 290) [_] _) _ _ _); k_dflt (refine' LDoes.use ?k1 ?k2 ?k3 ?k4 ?k5 ?k6 ?k7 (TgRowsC.use ?h0 ?h1 ?h2) ?kd ?ku ?_; (case k1 => k_asm); (case k2 => k_asm); (case k3 => k_asm); (case k4 => k_asm); (case k5 => k_asm); (case k6 => first | exact rfl | assumption); (case k7 => first | exact rfl | assumption); (case h0 => assumption); (case h1 => k_mem); (case h2 => assumption); (case kd => (try dsimp only [Around.deeper]); omega); (case ku => (try dsimp only [Around.deeper]); omega)); (intro a' vs' n' tl' h' tk' F' N' hl' ho1' ho2' hab' hr'); (have hlen' := Paired.length hr'); (try simp only [List.nil_append, List.cons_append, List.append_nil, List.append_assoc] at N'); (try k_sweep); (try dsimp only); (try k_fold)) | with_reducible (k_here; (with_reducible show wpAny _ _ (call (Value.ref 283) [_] _) _ _ _); k_dflt (refine' LDoes.use ?k1 ?k2 ?k3 ?k4 ?k5 ?k6 ?k7 (ExRowsC.use ?h0 ?h1) ?kd ?ku ?_; (case k1 => k_asm); (case k2 => k_asm); (case k3 => k_asm); (case k4 => k_asm); (case k5 => k_asm); (case k6 => first | exact rfl | assumption); (case k7 => first | exact rfl | assumption); (case h0 => assumption); (case h1 => first | assumption | exact ExIn.up (by assumption) (by tb_start)); (case kd => (try dsimp only [Around.deeper]); omega); (case ku => (try dsimp only [Around.deeper]); omega)); (intro a' vs' n' tl' h' tk' F' N' hl' ho1' ho2' hab' hr'); (have hlen' := Paired.length hr'); (try simp only [List.nil_append, List.cons_append, List.append_nil, List.append_assoc] at N'); (try k_sweep); (try dsimp only); (try k_fold)) | with_reducible (k_here; (with_reducible show wpAny _ _ (call (Value.builtin _) [Value.ref _, _]) _ _ _); k_dflt (refine' append_led ?k1 ?k2 ?k3 ?z ?_; (case k1 => k_asm); (case k2 => k_asm); (case k3 => k_upd); (case z => omega)); intro h' F' N'; (try k_sweep)))) | with_reducible (k_here; (with_reducible show wpAny _ _ (binaryOp _ (Value.ref _) (Value.ref _)) _ _ _); k_dflt (refine' add_led ?F ?N ?a ?b ?z ?_; (case F => k_asm); (case N => k_asm); (case a => k_mem); (case b => k_mem); (case z => first | omega | (simp only [List.length_append, List.length_cons, List.length_nil] at *; omega))); intro D' h' F' N' l1; (try k_lt l1); (try k_sweep)) | walk1 | ((refine' Hid.use ?hQ ?_); (case hQ => with_reducible assumption); (try dsimp only)) | dsimp only | (leave1; try dsimp only at *) | fail "no step")
  k_here
  refine' For_ledF ?kh ?_ ?c1
  (case kh => k_asm)
  (case c1 => intro _; with_unfolding_all rfl)
  (repeat' (first | ((with_reducible show wpAny _ _ _ _ _ (Shared.mk _ _ _ (_ + 1 + 1) _)); (refine forgetT ?_); (intro tk9); (try dsimp only)) | ((with_reducible show wpAny _ _ (PySem.exec _ _) _ _ _); ((fail_if_success (refine' hidden_test ?hQ ?_; (case hQ => with_reducible assumption))); (refine' hideQ ?_); (intro Q9 hQ9))) | (k_unfold; (try dsimp only)) | (k_end; wrow_close) | ((with_reducible show wpAny _ _ (call _ _ _) _ _ _); (first | with_reducible (k_here; (with_reducible show wpAny _ _ (call (Value.ref 297) [_, Value.bool _] _) _ _ _); k_dflt (refine' LDoes.use ?k1 ?k2 ?k3 ?k4 ?k5 ?k6 ?k7 (RowsC.use ?h0 ?h1 ?h2) ?kd ?ku ?_; (case k1 => k_asm); (case k2 => k_asm); (case k3 => k_asm); (case k4 => k_asm); (case k5 => k_asm); (case k6 => first | exact rfl | assumption); (case k7 => first | exact rfl | assumption); (case h0 => assumption); (case h1 => first | assumption | exact StIn.up (by assumption) (by tb_start)); (case h2 => first | assumption | omega | (dsimp only; omega)); (case kd => (try dsimp only [Around.deeper]); omega); (case ku => (try dsimp only [Around.deeper]); omega)); (intro a' vs' n' tl' h' tk' F' N' hl' ho1' ho2' hab' hr'); (have hlen' := Paired.length hr'); (try simp only [List.nil_append, List.cons_append, List.append_nil, List.append_assoc] at N'); (try k_sweep); (try dsimp only); (try k_fold)) | with_reducible (k_here; (with_reducible show wpAny _ _ (call (Value.ref 290) [_] _) _ _ _); k_dflt (refine' LDoes.use ?k1 ?k2 ?k3 ?k4 ?k5 ?k6 ?k7 (TgRowsC.use ?h0 ?h1 ?h2) ?kd ?ku ?_; (case k1 => k_asm); (case k2 => k_asm); (case k3 => k_asm); (case k4 => k_asm); (case k5 => k_asm); (case k6 => first | exact rfl | assumption); (case k7 => first | exact rfl | assumption); (case h0 => assumption); (case h1 => k_mem); (case h2 => assumption); (case kd => (try dsimp only [Around.deeper]); omega); (case ku => (try dsimp only [Around.deeper]); omega)); (intro a' vs' n' tl' h' tk' F' N' hl' ho1' ho2' hab' hr'); (have hlen' := Paired.length hr'); (try simp only [List.nil_append, List.cons_append, List.append_nil, List.append_assoc] at N'); (try k_sweep); (try dsimp only); (try k_fold)) | with_reducible (k_here; (with_reducible show wpAny _ _ (call (Value.ref 283) [_] _) _ _ _); k_dflt (refine' LDoes.use ?k1 ?k2 ?k3 ?k4 ?k5 ?k6 ?k7 (ExRowsC.use ?h0 ?h1) ?kd ?ku ?_; (case k1 => k_asm); (case k2 => k_asm); (case k3 => k_asm); (case k4 => k_asm); (case k5 => k_asm); (case k6 => first | exact rfl | assumption); (case k7 => first | exact rfl | assumption); (case h0 => assumption); (case h1 => first | assumption | exact ExIn.up (by assumption) (by tb_start)); (case kd => (try dsimp only [Around.deeper]); omega); (case ku => (try dsimp only [Around.deeper]); omega)); (intro a' vs' n' tl' h' tk' F' N' hl' ho1' ho2' hab' hr'); (have hlen' := Paired.length hr'); (try simp only [List.nil_append, List.cons_append, List.append_nil, List.append_assoc] at N'); (try k_sweep); (try dsimp only); (try k_fold)) | with_reducible (k_here; (with_reducible show wpAny _ _ (call (Value.builtin _) [Value.ref _, _]) _ _ _); k_dflt (refine' append_led ?k1 ?k2 ?k3 ?z ?_; (case k1 => k_asm); (case k2 => k_asm); (case k3 => k_upd); (case z => omega)); intro h' F' N'; (try k_sweep)))) | with_reducible (k_here; (with_reducible show wpAny _ _ (binaryOp _ (Value.ref _) (Value.ref _)) _ _ _); k_dflt (refine' add_led ?F ?N ?a ?b ?z ?_; (case F => k_asm); (case N => k_asm); (case a => k_mem); (case b => k_mem); (case z => first | omega | (simp only [List.length_append, List.length_cons, List.length_nil] at *; omega))); intro D' h' F' N' l1; (try k_lt l1); (try k_sweep)) | walk1 | ((refine' Hid.use ?hQ ?_); (case hQ => with_reducible assumption); (try dsimp only)) | dsimp only | (leave1; (try dsimp only)) | fail "no step"))

  refine iter_tuple rfl (by assumption) (by assumption) (by k_mem) ?_
  intro I St h1 F1 N1 hI hIt
  refine' for_found (base := rest) (rss := ds.map fun d => d.2 b) (Str.ofString "marks") (Str.ofString "inner") (Str.ofString "unlabelled") (Str.ofString "found") (Str.ofString "e") (fun v rows => ∃ d, BranchIn rest (StIn rest n) v d ∧ rows = d.2 b) (fun i _ _ u3 _ => ∃ t, u3 = some (.int (((ds.take i).filter (·.1)).length : Nat) t)) ?P hI F1 N1 ?T ?X0 ?R ?O ?B ?L ?D ?G ?turn ?done
  case R => assumption
  case P => exact paired_map _ (fun _ d h => ⟨d, h, rfl⟩) hp
  case T => k_mem
  case X0 => rfl
  case O => k_all
  case B => (first | assumption | exact PySem.W.allLt_of (by assumption) | exact allLt_left (by assumption) | exact allLt_right (by assumption))
  case L => exact hlenD
  case D => exact ⟨_, rfl⟩
  case G => exact fun _ _ _ _ _ hst h => letGo_tupleiter (hIt _ _ hst) h
  case turn =>
    intro i' v rows u1 u2 u3 u5 a2 vs2 n2 tl own cur h2 tk2 E' hv hr _ hcl hD hR o1 o2 o3 hb2 F2 N2
    dsimp only [ovr5] at F2
    obtain ⟨o1a, o1b⟩ := List.forall_mem_append.mp o1
    simp only [List.append_assoc] at N2
    obtain ⟨tD, rfl⟩ := hD
    obtain ⟨d, hd1, ad, nd, mk, st, rs, rfl, hdm, hst, hdd⟩ := paired_get hp i' v hv
    have hrd : rows = d.2 b := by
      rw [List.getElem?_map, hd1] at hr
      exact (Option.some.inj hr).symm
    have hcnt := count_take hd1
    have hvl := Paired.length hR
    rcases hdd with ⟨rfl, rfl⟩ | ⟨bl, nbl, vl, rss, rfl, hbl, hvl2, hpl, rfl⟩
    · dsimp only at hrd
      subst hrd
      (repeat' (first | ((with_reducible show wpAny _ _ _ _ _ (Shared.mk _ _ _ (_ + 1 + 1) _)); (refine forgetT ?_); (intro tk9); (try dsimp only)) | ((with_reducible show wpAny _ _ (PySem.exec _ _) _ _ _); ((fail_if_success (refine' hidden_test ?hQ ?_; (case hQ => with_reducible assumption))); (refine' hideQ ?_); (intro Q9 hQ9))) | (k_unfold; (try dsimp only)) | (k_end; wrow_close) | ((with_reducible show wpAny _ _ (call _ _ _) _ _ _); (first | with_reducible (k_here; (with_reducible show wpAny _ _ (call (Value.ref 297) [_, Value.bool _] _) _ _ _); k_dflt (refine' LDoes.use ?k1 ?k2 ?k3 ?k4 ?k5 ?k6 ?k7 (RowsC.use ?h0 ?h1 ?h2) ?kd ?ku ?_; (case k1 => k_asm); (case k2 => k_asm); (case k3 => k_asm); (case k4 => k_asm); (case k5 => k_asm); (case k6 => first | exact rfl | assumption); (case k7 => first | exact rfl | assumption); (case h0 => assumption); (case h1 => first | assumption | exact StIn.up (by assumption) (by tb_start)); (case h2 => first | assumption | omega | (dsimp only; omega)); (case kd => (try dsimp only [Around.deeper]); omega); (case ku => (try dsimp only [Around.deeper]); omega)); (intro a' vs' n' tl' h' tk' F' N' hl' ho1' ho2' hab' hr'); (have hlen' := Paired.length hr'); (try simp only [List.nil_append, List.cons_append, List.append_nil, List.append_assoc] at N'); (try k_sweep); (try dsimp only); (try k_fold)) | with_reducible (k_here; (with_reducible show wpAny _ _ (call (Value.ref 290) [_] _) _ _ _); k_dflt (refine' LDoes.use ?k1 ?k2 ?k3 ?k4 ?k5 ?k6 ?k7 (TgRowsC.use ?h0 ?h1 ?h2) ?kd ?ku ?_; (case k1 => k_asm); (case k2 => k_asm); (case k3 => k_asm); (case k4 => k_asm); (case k5 => k_asm); (case k6 => first | exact rfl | assumption); (case k7 => first | exact rfl | assumption); (case h0 => assumption); (case h1 => k_mem); (case h2 => assumption); (case kd => (try dsimp only [Around.deeper]); omega); (case ku => (try dsimp only [Around.deeper]); omega)); (intro a' vs' n' tl' h' tk' F' N' hl' ho1' ho2' hab' hr'); (have hlen' := Paired.length hr'); (try simp only [List.nil_append, List.cons_append, List.append_nil, List.append_assoc] at N'); (try k_sweep); (try dsimp only); (try k_fold)) | with_reducible (k_here; (with_reducible show wpAny _ _ (call (Value.ref 283) [_] _) _ _ _); k_dflt (refine' LDoes.use ?k1 ?k2 ?k3 ?k4 ?k5 ?k6 ?k7 (ExRowsC.use ?h0 ?h1) ?kd ?ku ?_; (case k1 => k_asm); (case k2 => k_asm); (case k3 => k_asm); (case k4 => k_asm); (case k5 => k_asm); (case k6 => first | exact rfl | assumption); (case k7 => first | exact rfl | assumption); (case h0 => assumption); (case h1 => first | assumption | exact ExIn.up (by assumption) (by tb_start)); (case kd => (try dsimp only [Around.deeper]); omega); (case ku => (try dsimp only [Around.deeper]); omega)); (intro a' vs' n' tl' h' tk' F' N' hl' ho1' ho2' hab' hr'); (have hlen' := Paired.length hr'); (try simp only [List.nil_append, List.cons_append, List.append_nil, List.append_assoc] at N'); (try k_sweep); (try dsimp only); (try k_fold)) | with_reducible (k_here; (with_reducible show wpAny _ _ (call (Value.builtin _) [Value.ref _, _]) _ _ _); k_dflt (refine' append_led ?k1 ?k2 ?k3 ?z ?_; (case k1 => k_asm); (case k2 => k_asm); (case k3 => k_upd); (case z => omega)); intro h' F' N'; (try k_sweep)))) | with_reducible (k_here; (with_reducible show wpAny _ _ (binaryOp _ (Value.ref _) (Value.ref _)) _ _ _); k_dflt (refine' add_led ?F ?N ?a ?b ?z ?_; (case F => k_asm); (case N => k_asm); (case a => k_mem); (case b => k_mem); (case z => first | omega | (simp only [List.length_append, List.length_cons, List.length_nil] at *; omega))); intro D' h' F' N' l1; (try k_lt l1); (try k_sweep)) | walk1 | ((refine' Hid.use ?hQ ?_); (case hQ => with_reducible assumption); (try dsimp only)) | dsimp only | (leave1; (try dsimp only)) | fail "no step"))
      (repeat ((rename _ ∧ _ => hAnd); (obtain ⟨_, _⟩ := hAnd)))
      refine' FoundEnd.intro ?F ?N (.head _) ?X ?R ?SS ?RR ?S ?A ?O1 ?O2 ?O3 ?B ?M ?D
      case F => assumption
      case N => assumption
      case X => exact if_pos rfl
      case R => exact paired_append (RowsIn.mono (fun _ h => List.mem_append.mpr (.inl h)) hR) (RowsIn.mono (fun _ h => List.mem_append.mpr (.inr h)) (by assumption))
      case SS => exact fun _ h => h
      case RR => first | rfl | simp only [List.append_assoc]
      case S => tb_start
      case A => tb_rel
      case O1 => exact off_sub (by assumption) (by tb_start)
      case O2 => exact off_sub (by assumption) (by tb_start)
      case O3 => exact off_sub (by assumption) (by tb_start)
      case B => exact allLt_sub2 (by assumption) (by tb_start)
      case M => (intro z h1 h2 h3 h4 h5; (try dsimp only [ovr5]); simp only [if_neg h1, if_neg h2, if_neg h3, if_neg h4, if_neg h5])
      case D => (rw [hcnt]; exact ⟨_, rfl⟩)
    · dsimp only at hrd
      subst hrd
      rw [List.length_append] at hcl
      repeat' (first | (fail_if_success (with_reducible show wpAny _ _ (exec (Stmt.For _ _ _ _ _) _) _ _ _)); first | ((with_reducible show wpAny _ _ _ _ _ (Shared.mk _ _ _ (_ + 1 + 1) _)); (refine forgetT ?_); (intro tk9); (try dsimp only)) | ((with_reducible show wpAny _ _ (PySem.exec _ _) _ _ _); ((fail_if_success (refine' hidden_test ?hQ ?_; (case hQ => with_reducible assumption))); (refine' hideQ ?_); (intro Q9 hQ9))) | (k_unfold; (try dsimp only)) | (k_end; wrow_close) | ((with_reducible show wpAny _ _ (call _ _ _) _ _ _); (first | with_reducible (k_here; (with_reducible show wpAny _ _ (call (Value.ref 297) [_, Value.bool _] _) _ _ _); k_dflt (refine' LDoes.use ?k1 ?k2 ?k3 ?k4 ?k5 ?k6 ?k7 (RowsC.use ?h0 ?h1 ?h2) ?kd ?ku ?_; (case k1 => k_asm); (case k2 => k_asm); (case k3 => k_asm); (case k4 => k_asm); (case k5 => k_asm); (case k6 => first | exact rfl | assumption); (case k7 => first | exact rfl | assumption); (case h0 => assumption); (case h1 => first | assumption | exact StIn.up (by assumption) (by tb_start)); (case h2 => first | assumption | omega | (dsimp only; omega)); (case kd => (try dsimp only [Around.deeper]); omega); (case ku => (try dsimp only [Around.deeper]); omega)); (intro a' vs' n' tl' h' tk' F' N' hl' ho1' ho2' hab' hr'); (have hlen' := Paired.length hr'); (try simp only [List.nil_append, List.cons_append, List.append_nil, List.append_assoc] at N'); (try k_sweep); (try dsimp only); (try k_fold)) | with_reducible (k_here; (with_reducible show wpAny _ _ (call (Value.ref 290) [_] _) _ _ _); k_dflt (refine' LDoes.use ?k1 ?k2 ?k3 ?k4 ?k5 ?k6 ?k7 (TgRowsC.use ?h0 ?h1 ?h2) ?kd ?ku ?_; (case k1 => k_asm); (case k2 => k_asm); (case k3 => k_asm); (case k4 => k_asm); (case k5 => k_asm); (case k6 => first | exact rfl | assumption); (case k7 => first | exact rfl | assumption); (case h0 => assumption); (case h1 => k_mem); (case h2 => assumption); (case kd => (try dsimp only [Around.deeper]); omega); (case ku => (try dsimp only [Around.deeper]); omega)); (intro a' vs' n' tl' h' tk' F' N' hl' ho1' ho2' hab' hr'); (have hlen' := Paired.length hr'); (try simp only [List.nil_append, List.cons_append, List.append_nil, List.append_assoc] at N'); (try k_sweep); (try dsimp only); (try k_fold)) | with_reducible (k_here; (with_reducible show wpAny _ _ (call (Value.ref 283) [_] _) _ _ _); k_dflt (refine' LDoes.use ?k1 ?k2 ?k3 ?k4 ?k5 ?k6 ?k7 (ExRowsC.use ?h0 ?h1) ?kd ?ku ?_; (case k1 => k_asm); (case k2 => k_asm); (case k3 => k_asm); (case k4 => k_asm); (case k5 => k_asm); (case k6 => first | exact rfl | assumption); (case k7 => first | exact rfl | assumption); (case h0 => assumption); (case h1 => first | assumption | exact ExIn.up (by assumption) (by tb_start)); (case kd => (try dsimp only [Around.deeper]); omega); (case ku => (try dsimp only [Around.deeper]); omega)); (intro a' vs' n' tl' h' tk' F' N' hl' ho1' ho2' hab' hr'); (have hlen' := Paired.length hr'); (try simp only [List.nil_append, List.cons_append, List.append_nil, List.append_assoc] at N'); (try k_sweep); (try dsimp only); (try k_fold)) | with_reducible (k_here; (with_reducible show wpAny _ _ (call (Value.builtin _) [Value.ref _, _]) _ _ _); k_dflt (refine' append_led ?k1 ?k2 ?k3 ?z ?_; (case k1 => k_asm); (case k2 => k_asm); (case k3 => k_upd); (case z => omega)); intro h' F' N'; (try k_sweep)))) | with_reducible (k_here; (with_reducible show wpAny _ _ (binaryOp _ (Value.ref _) (Value.ref _)) _ _ _); k_dflt (refine' add_led ?F ?N ?a ?b ?z ?_; (case F => k_asm); (case N => k_asm); (case a => k_mem); (case b => k_mem); (case z => first | omega | (simp only [List.length_append, List.length_cons, List.length_nil] at *; omega))); intro D' h' F' N' l1; (try k_lt l1); (try k_sweep)) | walk1 | ((refine' Hid.use ?hQ ?_); (case hQ => with_reducible assumption); (try dsimp only)) | dsimp only | (leave1; try dsimp only at *) | fail "no step")
      k_here
      refine' For_ledF ?kh ?_ ?c1
      (case kh => k_asm)
      (case c1 => intro _; with_unfolding_all rfl)
      (repeat' (first | ((with_reducible show wpAny _ _ _ _ _ (Shared.mk _ _ _ (_ + 1 + 1) _)); (refine forgetT ?_); (intro tk9); (try dsimp only)) | ((with_reducible show wpAny _ _ (PySem.exec _ _) _ _ _); ((fail_if_success (refine' hidden_test ?hQ ?_; (case hQ => with_reducible assumption))); (refine' hideQ ?_); (intro Q9 hQ9))) | (k_unfold; (try dsimp only)) | (k_end; wrow_close) | ((with_reducible show wpAny _ _ (call _ _ _) _ _ _); (first | with_reducible (k_here; (with_reducible show wpAny _ _ (call (Value.ref 297) [_, Value.bool _] _) _ _ _); k_dflt (refine' LDoes.use ?k1 ?k2 ?k3 ?k4 ?k5 ?k6 ?k7 (RowsC.use ?h0 ?h1 ?h2) ?kd ?ku ?_; (case k1 => k_asm); (case k2 => k_asm); (case k3 => k_asm); (case k4 => k_asm); (case k5 => k_asm); (case k6 => first | exact rfl | assumption); (case k7 => first | exact rfl | assumption); (case h0 => assumption); (case h1 => first | assumption | exact StIn.up (by assumption) (by tb_start)); (case h2 => first | assumption | omega | (dsimp only; omega)); (case kd => (try dsimp only [Around.deeper]); omega); (case ku => (try dsimp only [Around.deeper]); omega)); (intro a' vs' n' tl' h' tk' F' N' hl' ho1' ho2' hab' hr'); (have hlen' := Paired.length hr'); (try simp only [List.nil_append, List.cons_append, List.append_nil, List.append_assoc] at N'); (try k_sweep); (try dsimp only); (try k_fold)) | with_reducible (k_here; (with_reducible show wpAny _ _ (call (Value.ref 290) [_] _) _ _ _); k_dflt (refine' LDoes.use ?k1 ?k2 ?k3 ?k4 ?k5 ?k6 ?k7 (TgRowsC.use ?h0 ?h1 ?h2) ?kd ?ku ?_; (case k1 => k_asm); (case k2 => k_asm); (case k3 => k_asm); (case k4 => k_asm); (case k5 => k_asm); (case k6 => first | exact rfl | assumption); (case k7 => first | exact rfl | assumption); (case h0 => assumption); (case h1 => k_mem); (case h2 => assumption); (case kd => (try dsimp only [Around.deeper]); omega); (case ku => (try dsimp only [Around.deeper]); omega)); (intro a' vs' n' tl' h' tk' F' N' hl' ho1' ho2' hab' hr'); (have hlen' := Paired.length hr'); (try simp only [List.nil_append, List.cons_append, List.append_nil, List.append_assoc] at N'); (try k_sweep); (try dsimp only); (try k_fold)) | with_reducible (k_here; (with_reducible show wpAny _ _ (call (Value.ref 283) [_] _) _ _ _); k_dflt (refine' LDoes.use ?k1 ?k2 ?k3 ?k4 ?k5 ?k6 ?k7 (ExRowsC.use ?h0 ?h1) ?kd ?ku ?_; (case k1 => k_asm); (case k2 => k_asm); (case k3 => k_asm); (case k4 => k_asm); (case k5 => k_asm); (case k6 => first | exact rfl | assumption); (case k7 => first | exact rfl | assumption); (case h0 => assumption); (case h1 => first | assumption | exact ExIn.up (by assumption) (by tb_start)); (case kd => (try dsimp only [Around.deeper]); omega); (case ku => (try dsimp only [Around.deeper]); omega)); (intro a' vs' n' tl' h' tk' F' N' hl' ho1' ho2' hab' hr'); (have hlen' := Paired.length hr'); (try simp only [List.nil_append, List.cons_append, List.append_nil, List.append_assoc] at N'); (try k_sweep); (try dsimp only); (try k_fold)) | with_reducible (k_here; (with_reducible show wpAny _ _ (call (Value.builtin _) [Value.ref _, _]) _ _ _); k_dflt (refine' append_led ?k1 ?k2 ?k3 ?z ?_; (case k1 => k_asm); (case k2 => k_asm); (case k3 => k_upd); (case z => omega)); intro h' F' N'; (try k_sweep)))) | with_reducible (k_here; (with_reducible show wpAny _ _ (binaryOp _ (Value.ref _) (Value.ref _)) _ _ _); k_dflt (refine' add_led ?F ?N ?a ?b ?z ?_; (case F => k_asm); (case N => k_asm); (case a => k_mem); (case b => k_mem); (case z => first | omega | (simp only [List.length_append, List.length_cons, List.length_nil] at *; omega))); intro D' h' F' N' l1; (try k_lt l1); (try k_sweep)) | walk1 | ((refine' Hid.use ?hQ ?_); (case hQ => with_reducible assumption); (try dsimp only)) | dsimp only | (leave1; (try dsimp only)) | fail "no step"))

      refine iter_tuple rfl (by assumption) (by assumption) (by k_mem) ?_
      intro I2 St2 h3 F3 N3 hI2 hIt2
      refine' for_found (base := rest) (rss := rss) (Str.ofString "e") (Str.ofString "e") (Str.ofString "e") (Str.ofString "found") (Str.ofString "e") (ExIn rest 1) (fun _ _ _ _ _ => True) hpl hI2 F3 N3 ?T ?X0 hR ?O hb2 ?L trivial ?G ?turn2 ?done2
      case T => k_mem
      case X0 => rfl
      case O => k_all
      case L => omega
      case G => exact fun _ _ _ _ _ _ h => wpAny_pure h
      case turn2 =>
        intro i3 v3 rows3 w1 w2 w3 w5 a3 vs3 n3 tl3 own3 cur3 h4 tk4 E4 hv3 hr3 hrel3 hcl3 _ hR3 p1 p2 p3 hb3 F4 N4
        dsimp only [ovr5] at F4
        simp only [List.append_assoc] at N4
        have hvl3 := Paired.length hR3
        have hL3 : rows3.length ≤ 2 := exLen hrel3
        (repeat' (first | ((with_reducible show wpAny _ _ _ _ _ (Shared.mk _ _ _ (_ + 1 + 1) _)); (refine forgetT ?_); (intro tk9); (try dsimp only)) | ((with_reducible show wpAny _ _ (PySem.exec _ _) _ _ _); ((fail_if_success (refine' hidden_test ?hQ ?_; (case hQ => with_reducible assumption))); (refine' hideQ ?_); (intro Q9 hQ9))) | (k_unfold; (try dsimp only)) | (k_end; wrow_close) | ((with_reducible show wpAny _ _ (call _ _ _) _ _ _); (first | with_reducible (k_here; (with_reducible show wpAny _ _ (call (Value.ref 297) [_, Value.bool _] _) _ _ _); k_dflt (refine' LDoes.use ?k1 ?k2 ?k3 ?k4 ?k5 ?k6 ?k7 (RowsC.use ?h0 ?h1 ?h2) ?kd ?ku ?_; (case k1 => k_asm); (case k2 => k_asm); (case k3 => k_asm); (case k4 => k_asm); (case k5 => k_asm); (case k6 => first | exact rfl | assumption); (case k7 => first | exact rfl | assumption); (case h0 => assumption); (case h1 => first | assumption | exact StIn.up (by assumption) (by tb_start)); (case h2 => first | assumption | omega | (dsimp only; omega)); (case kd => (try dsimp only [Around.deeper]); omega); (case ku => (try dsimp only [Around.deeper]); omega)); (intro a' vs' n' tl' h' tk' F' N' hl' ho1' ho2' hab' hr'); (have hlen' := Paired.length hr'); (try simp only [List.nil_append, List.cons_append, List.append_nil, List.append_assoc] at N'); (try k_sweep); (try dsimp only); (try k_fold)) | with_reducible (k_here; (with_reducible show wpAny _ _ (call (Value.ref 290) [_] _) _ _ _); k_dflt (refine' LDoes.use ?k1 ?k2 ?k3 ?k4 ?k5 ?k6 ?k7 (TgRowsC.use ?h0 ?h1 ?h2) ?kd ?ku ?_; (case k1 => k_asm); (case k2 => k_asm); (case k3 => k_asm); (case k4 => k_asm); (case k5 => k_asm); (case k6 => first | exact rfl | assumption); (case k7 => first | exact rfl | assumption); (case h0 => assumption); (case h1 => k_mem); (case h2 => assumption); (case kd => (try dsimp only [Around.deeper]); omega); (case ku => (try dsimp only [Around.deeper]); omega)); (intro a' vs' n' tl' h' tk' F' N' hl' ho1' ho2' hab' hr'); (have hlen' := Paired.length hr'); (try simp only [List.nil_append, List.cons_append, List.append_nil, List.append_assoc] at N'); (try k_sweep); (try dsimp only); (try k_fold)) | with_reducible (k_here; (with_reducible show wpAny _ _ (call (Value.ref 283) [_] _) _ _ _); k_dflt (refine' LDoes.use ?k1 ?k2 ?k3 ?k4 ?k5 ?k6 ?k7 (ExRowsC.use ?h0 ?h1) ?kd ?ku ?_; (case k1 => k_asm); (case k2 => k_asm); (case k3 => k_asm); (case k4 => k_asm); (case k5 => k_asm); (case k6 => first | exact rfl | assumption); (case k7 => first | exact rfl | assumption); (case h0 => assumption); (case h1 => first | assumption | exact ExIn.up (by assumption) (by tb_start)); (case kd => (try dsimp only [Around.deeper]); omega); (case ku => (try dsimp only [Around.deeper]); omega)); (intro a' vs' n' tl' h' tk' F' N' hl' ho1' ho2' hab' hr'); (have hlen' := Paired.length hr'); (try simp only [List.nil_append, List.cons_append, List.append_nil, List.append_assoc] at N'); (try k_sweep); (try dsimp only); (try k_fold)) | with_reducible (k_here; (with_reducible show wpAny _ _ (call (Value.builtin _) [Value.ref _, _]) _ _ _); k_dflt (refine' append_led ?k1 ?k2 ?k3 ?z ?_; (case k1 => k_asm); (case k2 => k_asm); (case k3 => k_upd); (case z => omega)); intro h' F' N'; (try k_sweep)))) | with_reducible (k_here; (with_reducible show wpAny _ _ (binaryOp _ (Value.ref _) (Value.ref _)) _ _ _); k_dflt (refine' add_led ?F ?N ?a ?b ?z ?_; (case F => k_asm); (case N => k_asm); (case a => k_mem); (case b => k_mem); (case z => first | omega | (simp only [List.length_append, List.length_cons, List.length_nil] at *; omega))); intro D' h' F' N' l1; (try k_lt l1); (try k_sweep)) | walk1 | ((refine' Hid.use ?hQ ?_); (case hQ => with_reducible assumption); (try dsimp only)) | dsimp only | (leave1; (try dsimp only)) | fail "no step"))
        (repeat ((rename _ ∧ _ => hAnd); (obtain ⟨_, _⟩ := hAnd)))
        refine' FoundEnd.intro ?F ?N (.head _) ?X ?R ?SS ?RR ?S ?A ?O1 ?O2 ?O3 ?B ?M ?D
        case F => assumption
        case N => assumption
        case X => exact if_pos rfl
        case R => exact paired_append (RowsIn.mono (fun _ h => List.mem_append.mpr (.inl h)) hR3) (RowsIn.mono (fun _ h => List.mem_append.mpr (.inr h)) (by assumption))
        case SS => exact fun _ h => h
        case RR => first | rfl | simp only [List.append_assoc]
        case S => tb_start
        case A => tb_rel
        case O1 => exact off_sub (by assumption) (by tb_start)
        case O2 => exact off_sub (by assumption) (by tb_start)
        case O3 => exact off_sub (by assumption) (by tb_start)
        case B => exact allLt_sub2 (by assumption) (by tb_start)
        case M => (intro z h1 h2 h3 h4 h5; (try dsimp only [ovr5]); simp only [if_neg h1, if_neg h2, if_neg h3, if_neg h4, if_neg h5])
        case D => trivial
      case done2 =>
        intro w1 w2 w3 w5 a3 vs3 n3 tl3 h4 tk4 hR3 hab3 p1 p2 hb3 _ F4 N4
        dsimp only [ovr5] at F4
        simp only [List.append_assoc] at N4
        have hvl3 := Paired.length hR3
        rw [List.length_append] at hvl3
        (repeat' (first | ((with_reducible show wpAny _ _ _ _ _ (Shared.mk _ _ _ (_ + 1 + 1) _)); (refine forgetT ?_); (intro tk9); (try dsimp only)) | ((with_reducible show wpAny _ _ (PySem.exec _ _) _ _ _); ((fail_if_success (refine' hidden_test ?hQ ?_; (case hQ => with_reducible assumption))); (refine' hideQ ?_); (intro Q9 hQ9))) | (k_unfold; (try dsimp only)) | (k_end; wrow_close) | ((with_reducible show wpAny _ _ (call _ _ _) _ _ _); (first | with_reducible (k_here; (with_reducible show wpAny _ _ (call (Value.ref 297) [_, Value.bool _] _) _ _ _); k_dflt (refine' LDoes.use ?k1 ?k2 ?k3 ?k4 ?k5 ?k6 ?k7 (RowsC.use ?h0 ?h1 ?h2) ?kd ?ku ?_; (case k1 => k_asm); (case k2 => k_asm); (case k3 => k_asm); (case k4 => k_asm); (case k5 => k_asm); (case k6 => first | exact rfl | assumption); (case k7 => first | exact rfl | assumption); (case h0 => assumption); (case h1 => first | assumption | exact StIn.up (by assumption) (by tb_start)); (case h2 => first | assumption | omega | (dsimp only; omega)); (case kd => (try dsimp only [Around.deeper]); omega); (case ku => (try dsimp only [Around.deeper]); omega)); (intro a' vs' n' tl' h' tk' F' N' hl' ho1' ho2' hab' hr'); (have hlen' := Paired.length hr'); (try simp only [List.nil_append, List.cons_append, List.append_nil, List.append_assoc] at N'); (try k_sweep); (try dsimp only); (try k_fold)) | with_reducible (k_here; (with_reducible show wpAny _ _ (call (Value.ref 290) [_] _) _ _ _); k_dflt (refine' LDoes.use ?k1 ?k2 ?k3 ?k4 ?k5 ?k6 ?k7 (TgRowsC.use ?h0 ?h1 ?h2) ?kd ?ku ?_; (case k1 => k_asm); (case k2 => k_asm); (case k3 => k_asm); (case k4 => k_asm); (case k5 => k_asm); (case k6 => first | exact rfl | assumption); (case k7 => first | exact rfl | assumption); (case h0 => assumption); (case h1 => k_mem); (case h2 => assumption); (case kd => (try dsimp only [Around.deeper]); omega); (case ku => (try dsimp only [Around.deeper]); omega)); (intro a' vs' n' tl' h' tk' F' N' hl' ho1' ho2' hab' hr'); (have hlen' := Paired.length hr'); (try simp only [List.nil_append, List.cons_append, List.append_nil, List.append_assoc] at N'); (try k_sweep); (try dsimp only); (try k_fold)) | with_reducible (k_here; (with_reducible show wpAny _ _ (call (Value.ref 283) [_] _) _ _ _); k_dflt (refine' LDoes.use ?k1 ?k2 ?k3 ?k4 ?k5 ?k6 ?k7 (ExRowsC.use ?h0 ?h1) ?kd ?ku ?_; (case k1 => k_asm); (case k2 => k_asm); (case k3 => k_asm); (case k4 => k_asm); (case k5 => k_asm); (case k6 => first | exact rfl | assumption); (case k7 => first | exact rfl | assumption); (case h0 => assumption); (case h1 => first | assumption | exact ExIn.up (by assumption) (by tb_start)); (case kd => (try dsimp only [Around.deeper]); omega); (case ku => (try dsimp only [Around.deeper]); omega)); (intro a' vs' n' tl' h' tk' F' N' hl' ho1' ho2' hab' hr'); (have hlen' := Paired.length hr'); (try simp only [List.nil_append, List.cons_append, List.append_nil, List.append_assoc] at N'); (try k_sweep); (try dsimp only); (try k_fold)) | with_reducible (k_here; (with_reducible show wpAny _ _ (call (Value.builtin _) [Value.ref _, _]) _ _ _); k_dflt (refine' append_led ?k1 ?k2 ?k3 ?z ?_; (case k1 => k_asm); (case k2 => k_asm); (case k3 => k_upd); (case z => omega)); intro h' F' N'; (try k_sweep)))) | with_reducible (k_here; (with_reducible show wpAny _ _ (binaryOp _ (Value.ref _) (Value.ref _)) _ _ _); k_dflt (refine' add_led ?F ?N ?a ?b ?z ?_; (case F => k_asm); (case N => k_asm); (case a => k_mem); (case b => k_mem); (case z => first | omega | (simp only [List.length_append, List.length_cons, List.length_nil] at *; omega))); intro D' h' F' N' l1; (try k_lt l1); (try k_sweep)) | walk1 | ((refine' Hid.use ?hQ ?_); (case hQ => with_reducible assumption); (try dsimp only)) | dsimp only | (leave1; (try dsimp only)) | fail "no step"))
        (repeat ((rename _ ∧ _ => hAnd); (obtain ⟨_, _⟩ := hAnd)))
        refine' FoundEnd.intro ?F ?N (.head _) ?X ?R ?SS ?RR ?S ?A ?O1 ?O2 ?O3 ?B ?M ?D
        case F => assumption
        case N => assumption
        case X => exact if_pos rfl
        case R => exact paired_append (RowsIn.mono (fun _ h => List.mem_append.mpr (.inl h)) hR3) (RowsIn.mono (fun _ h => List.mem_append.mpr (.inr h)) (by assumption))
        case SS => (intro p hp; rw [List.append_assoc] at hp; exact hp)
        case RR => first | rfl | simp only [List.append_assoc]
        case S => tb_start
        case A => tb_rel
        case O1 => exact off_sub (by assumption) (by tb_start)
        case O2 => exact off_sub (by assumption) (by tb_start)
        case O3 => exact off_sub (by assumption) (by tb_start)
        case B => exact allLt_sub2 (by assumption) (by tb_start)
        case M => (intro z h1 h2 h3 h4 h5; (try dsimp only [ovr5]); simp only [if_neg h1, if_neg h2, if_neg h3, if_neg h4, if_neg h5])
        case D => (rw [hcnt]; exact ⟨_, rfl⟩)
  case done =>
    intro u1 u2 u3 u5 a2 vs2 n2 tl h2 tk2 hR hab o1 o2 hb2 hD F2 N2
    dsimp only [ovr5] at F2
    obtain ⟨o1a, o1b⟩ := List.forall_mem_append.mp o1
    simp only [List.append_assoc] at N2
    rw [show ds.take vs.length = ds from List.take_of_length_le (by rw [Paired.length hp]; exact Nat.le_refl _)] at hD
    obtain ⟨tD, rfl⟩ := hD
    have hvl := Paired.length hR
    rw [List.length_append] at hvl
    (repeat' (first | ((with_reducible show wpAny _ _ _ _ _ (Shared.mk _ _ _ (_ + 1 + 1) _)); (refine forgetT ?_); (intro tk9); (try dsimp only)) | ((with_reducible show wpAny _ _ (PySem.exec _ _) _ _ _); ((fail_if_success (refine' hidden_test ?hQ ?_; (case hQ => with_reducible assumption))); (refine' hideQ ?_); (intro Q9 hQ9))) | (k_unfold; (try dsimp only)) | (k_end; wrow_close) | ((with_reducible show wpAny _ _ (call _ _ _) _ _ _); (first | with_reducible (k_here; (with_reducible show wpAny _ _ (call (Value.ref 297) [_, Value.bool _] _) _ _ _); k_dflt (refine' LDoes.use ?k1 ?k2 ?k3 ?k4 ?k5 ?k6 ?k7 (RowsC.use ?h0 ?h1 ?h2) ?kd ?ku ?_; (case k1 => k_asm); (case k2 => k_asm); (case k3 => k_asm); (case k4 => k_asm); (case k5 => k_asm); (case k6 => first | exact rfl | assumption); (case k7 => first | exact rfl | assumption); (case h0 => assumption); (case h1 => first | assumption | exact StIn.up (by assumption) (by tb_start)); (case h2 => first | assumption | omega | (dsimp only; omega)); (case kd => (try dsimp only [Around.deeper]); omega); (case ku => (try dsimp only [Around.deeper]); omega)); (intro a' vs' n' tl' h' tk' F' N' hl' ho1' ho2' hab' hr'); (have hlen' := Paired.length hr'); (try simp only [List.nil_append, List.cons_append, List.append_nil, List.append_assoc] at N'); (try k_sweep); (try dsimp only); (try k_fold)) | with_reducible (k_here; (with_reducible show wpAny _ _ (call (Value.ref 290) [_] _) _ _ _); k_dflt (refine' LDoes.use ?k1 ?k2 ?k3 ?k4 ?k5 ?k6 ?k7 (TgRowsC.use ?h0 ?h1 ?h2) ?kd ?ku ?_; (case k1 => k_asm); (case k2 => k_asm); (case k3 => k_asm); (case k4 => k_asm); (case k5 => k_asm); (case k6 => first | exact rfl | assumption); (case k7 => first | exact rfl | assumption); (case h0 => assumption); (case h1 => k_mem); (case h2 => assumption); (case kd => (try dsimp only [Around.deeper]); omega); (case ku => (try dsimp only [Around.deeper]); omega)); (intro a' vs' n' tl' h' tk' F' N' hl' ho1' ho2' hab' hr'); (have hlen' := Paired.length hr'); (try simp only [List.nil_append, List.cons_append, List.append_nil, List.append_assoc] at N'); (try k_sweep); (try dsimp only); (try k_fold)) | with_reducible (k_here; (with_reducible show wpAny _ _ (call (Value.ref 283) [_] _) _ _ _); k_dflt (refine' LDoes.use ?k1 ?k2 ?k3 ?k4 ?k5 ?k6 ?k7 (ExRowsC.use ?h0 ?h1) ?kd ?ku ?_; (case k1 => k_asm); (case k2 => k_asm); (case k3 => k_asm); (case k4 => k_asm); (case k5 => k_asm); (case k6 => first | exact rfl | assumption); (case k7 => first | exact rfl | assumption); (case h0 => assumption); (case h1 => first | assumption | exact ExIn.up (by assumption) (by tb_start)); (case kd => (try dsimp only [Around.deeper]); omega); (case ku => (try dsimp only [Around.deeper]); omega)); (intro a' vs' n' tl' h' tk' F' N' hl' ho1' ho2' hab' hr'); (have hlen' := Paired.length hr'); (try simp only [List.nil_append, List.cons_append, List.append_nil, List.append_assoc] at N'); (try k_sweep); (try dsimp only); (try k_fold)) | with_reducible (k_here; (with_reducible show wpAny _ _ (call (Value.builtin _) [Value.ref _, _]) _ _ _); k_dflt (refine' append_led ?k1 ?k2 ?k3 ?z ?_; (case k1 => k_asm); (case k2 => k_asm); (case k3 => k_upd); (case z => omega)); intro h' F' N'; (try k_sweep)))) | with_reducible (k_here; (with_reducible show wpAny _ _ (binaryOp _ (Value.ref _) (Value.ref _)) _ _ _); k_dflt (refine' add_led ?F ?N ?a ?b ?z ?_; (case F => k_asm); (case N => k_asm); (case a => k_mem); (case b => k_mem); (case z => first | omega | (simp only [List.length_append, List.length_cons, List.length_nil] at *; omega))); intro D' h' F' N' l1; (try k_lt l1); (try k_sweep)) | walk1 | ((refine' Hid.use ?hQ ?_); (case hQ => with_reducible assumption); (try dsimp only)) | dsimp only | (leave1; (try dsimp only)) | fail "no step"))
    · (repeat ((rename _ ∧ _ => hAnd); (obtain ⟨_, _⟩ := hAnd)))
      refine' LDoes.finS hret ?F ?N hR ?E ?S hb2 ?DT ?O ?TR ?A
      case F => assumption
      case N => assumption
      case E => (unfold caseRows; rw [if_pos (by omega)])
      case S => tb_start
      case DT => assumption
      case O => k_all
      case TR => exact allLt_sub2 (by assumption) (by tb_start)
      case A => tb_rel
    · refine' LDoes.fin hret ?F ?N (.head _) ?S hb2 ?O ?A ?R
      case F => assumption
      case N => assumption
      case R => (unfold caseRows; rw [if_neg (by omega), List.append_nil]; exact hR)
      case O => k_all
      case A => tb_rel
      case S => tb_start
theorem caseRows2 {w : World} : CaseRowsC w 2 10 := by
  have s0 : RowsC w 0 5 := fun hS _ => setRows hS
  have sS : ∀ {n c : Nat}, RowsC w n c → 5 ≤ c → RowsC w (n + 1) (c + 2) := by
    intro n c hC hc rest v rows b hS hl
    rcases hS with h | ⟨rfl, rfl⟩ | h | h
    · exact (setRows h).weak (by omega)
    · exact noneRows.weak (by omega)
    · exact (delayRows hC (by omega) h hl).weak (by omega)
    · exact (caseRowsC hC (by omega) h hl).weak (by omega)
  have s1 : RowsC w 1 7 := sS s0 (by omega)
  have s2 : RowsC w 2 9 := sS s1 (by omega)
  intro rest v rows b hS hl
  exact caseRowsC s2 (by omega) hS hl
end
section
open PySem PySem.W PySem.Calls PyProof.Rows PySem.Spec
theorem frag_on28 : (hdS.heap_1 = hdS.heap_1 ∧ PySem.Challenge.rw_on0122_01 = PySem.Challenge.rw_on0122_01) := by
  k_fill
  exact ⟨rfl, rfl⟩
local macro_rules | `(tactic| k_mem) => `(tactic| focus ((repeat' (first | ktr_member | refine List.mem_cons_of_mem _ ?_)); done))

theorem TabOne.mk {w : World} {led : Led} {a d e : Addr} {p : Value} {kvs : List (Str × Value)} {h1 h2 : Int} {t1 t2 : Tok} {n : Nat} {oe : Obj} (a1 : (a, instObj 59 d) ∈ led) (a2 : (d, dictOf [⟨h1, tx "parent" t1, p⟩, ⟨h2, tx "entries" t2, .ref e⟩] n) ∈ led) (a3 : (e, oe) ∈ led) (a4 : (e == sysModules) = false) (a5 : Obj.IsDictOf (PySem.strKind PySem.Challenge.rw_on0122_01.row.prog w) oe kvs) : TabOne w led a p kvs :=
  ⟨d, h1, t1, h2, t2, n, e, oe, a1, a2, a3, a4, a5⟩
theorem TabIn.mk {w : World} {led : Led} {ia oa vv vp vi vw vn : Addr} (h1 : TabOne w led ia (.ref oa) [(Str.ofString "w", .ref vw), (Str.ofString "n", .ref vn)]) (h2 : TabOne w led oa .none [(Str.ofString "v", .ref vv), (Str.ofString "p", .ref vp), (Str.ofString "i", .ref vi)])
    (a1 : EntIn led (Str.ofString "v") (.ref vv)) (a2 : EntIn led (Str.ofString "p") (.ref vp)) (a3 : EntIn led (Str.ofString "i") (.ref vi)) (a4 : EntIn led (Str.ofString "w") (.ref vw)) (a5 : EntIn led (Str.ofString "n") (.ref vn)) : TabIn w led (.ref ia) :=
  ⟨ia, oa, vv, vp, vi, vw, vn, rfl, h1, h2, a1, a2, a3, a4, a5⟩
theorem ent_var {led : Led} {x : Str} {d : Addr} {k : Nat} {t0 t1 : Tok} {i : Int} {u : Value} (h : (d, tupO [tx "var" t0, .int i t1, u] k) ∈ led) (hx : x = Str.ofString "v" ∨ x = Str.ofString "w") : EntIn led x (.ref d) := .inr (.inl ⟨d, k, t0, i, t1, u, rfl, h, hx⟩)
theorem ent_par {led : Led} {d : Addr} {k : Nat} {t0 t1 : Tok} {i : Int} {u : Value} (h : (d, tupO [tx "param" t0, .int i t1, u] k) ∈ led) : EntIn led (Str.ofString "p") (.ref d) := .inr (.inr (.inl ⟨d, k, t0, i, t1, u, rfl, h, rfl⟩))
theorem ent_net {led : Led} {d e : Addr} {k k2 : Nat} {t0 t1 t2 : Tok} {i : Int} {b1 b2 : Value} (h : (d, tupO [tx "net" t0, .int i t1, .ref e] k) ∈ led) (h2 : (e, tupO [tx "" t2, b1, b2] k2) ∈ led) : EntIn led (Str.ofString "n") (.ref d) := .inr (.inr (.inr (.inl ⟨d, k, t0, i, t1, e, k2, t2, b1, b2, rfl, h, h2, rfl⟩)))
theorem ent_inp {led : Led} {d e : Addr} {k k2 : Nat} {t0 t1 t2 : Tok} {i : Int} {b1 b2 : Value} (h : (d, tupO [tx "net" t0, .int i t1, .ref e] k) ∈ led) (h2 : (e, tupO [tx "input" t2, b1, b2] k2) ∈ led) : EntIn led (Str.ofString "i") (.ref d) := .inr (.inr (.inr (.inr ⟨d, k, t0, i, t1, e, k2, t2, b1, b2, rfl, h, h2, rfl⟩)))
theorem allLt_trans {d x : Addr} {l : Led} (h : @LT.lt Nat _ d x) (k : AllLt d l) : AllLt x l := PySem.W.allLt_of fun p hp => Nat.lt_trans (ktn_ltOf k p hp) h
theorem tab_fin {rest : Led} {e1 e2 e3 e4 e5 e6 e7 e8 e9 e10 e11 e12 e13 e14 e15 : Addr × Obj} {Post : Value → Led → Prop} {h₀ h' : Heap} {L : Addr} {m : Str → Option Value} {s : Shared} {Q : Value → Shared → Prop} {tk' : Nat} {r : Value}
    (hret : ∀ r post h' tk', Fr h₀ L h' m → News h₀ L h' post → (∃ tl, post = rest ++ tl ∧ (∀ q ∈ rest, ∀ p ∈ tl, @LT.lt Nat _ q.1 p.1) ∧ Post r tl) → Q r { s with heap := h', toks := tk' })
    (F' : Fr h₀ L h' m) (N' : News h₀ L h' (e1 :: e2 :: e3 :: e4 :: e5 :: e6 :: e7 :: e8 :: e9 :: e10 :: e11 :: e12 :: e13 :: e14 :: e15 :: rest)) (hP : Post r [e1, e2, e3, e4, e5, e6, e7, e8, e9, e10, e11, e12, e13, e14, e15]) (a1 : AllLt e1.1 rest) (a2 : AllLt e2.1 rest) (a3 : AllLt e3.1 rest) (a4 : AllLt e4.1 rest) (a5 : AllLt e5.1 rest) (a6 : AllLt e6.1 rest) (a7 : AllLt e7.1 rest) (a8 : AllLt e8.1 rest) (a9 : AllLt e9.1 rest) (a10 : AllLt e10.1 rest) (a11 : AllLt e11.1 rest) (a12 : AllLt e12.1 rest) (a13 : AllLt e13.1 rest) (a14 : AllLt e14.1 rest) (a15 : AllLt e15.1 rest) : Q r { s with heap := h', toks := tk' } :=
  PDoes.fin hret F' N' [e1, e2, e3, e4, e5, e6, e7, e8, e9, e10, e11, e12, e13, e14, e15] (fun p hp => (List.mem_append.mp hp).elim (fun h => List.mem_append.mpr (.inr h : p ∈ [e1, e2, e3, e4, e5, e6, e7, e8, e9, e10, e11, e12, e13, e14, e15] ∨ p ∈ rest)) fun h => List.mem_append.mpr (.inl h : p ∈ [e1, e2, e3, e4, e5, e6, e7, e8, e9, e10, e11, e12, e13, e14, e15] ∨ p ∈ rest)) (fun q hq p hp => by
    simp only [List.mem_cons, List.not_mem_nil, or_false] at hp
    rcases hp with rfl | rfl | rfl | rfl | rfl | rfl | rfl | rfl | rfl | rfl | rfl | rfl | rfl | rfl | rfl
    · exact ktn_ltOf a1 q hq
    · exact ktn_ltOf a2 q hq
    · exact ktn_ltOf a3 q hq
    · exact ktn_ltOf a4 q hq
    · exact ktn_ltOf a5 q hq
    · exact ktn_ltOf a6 q hq
    · exact ktn_ltOf a7 q hq
    · exact ktn_ltOf a8 q hq
    · exact ktn_ltOf a9 q hq
    · exact ktn_ltOf a10 q hq
    · exact ktn_ltOf a11 q hq
    · exact ktn_ltOf a12 q hq
    · exact ktn_ltOf a13 q hq
    · exact ktn_ltOf a14 q hq
    · exact ktn_ltOf a15 q hq) hP

set_option maxHeartbeats 8000000 in
theorem tables0 {w : World} {rest : Led} : PDoes w 304 3 [] rest (fun r tl => TabIn w tl r) := by
  intro dp un gd env outer A₀ base h₀ L m mean mg mb s Q E HA hd hu hret
  obtain ⟨B, F, X, N, T, fr, kd⟩ := HA
  refine wpAny_call ?_
  k_dflt ktr_enter
  (repeat' (first | ((with_reducible show wpAny _ _ _ _ _ (Shared.mk _ _ _ (_ + 1 + 1) _)); (refine forgetT ?_); (intro tk9); (try dsimp only)) | ((with_reducible show wpAny _ _ (PySem.exec _ _) _ _ _); ((fail_if_success (refine' hidden_test ?hQ ?_; (case hQ => with_reducible assumption))); (refine' hideQ ?_); (intro Q9 hQ9))) | (k_unfold; (try dsimp only)) | (k_end; wrow_close) | walk1 | ((refine' Hid.use ?hQ ?_); (case hQ => with_reducible assumption); (try dsimp only)) | dsimp only | (leave1; (try dsimp only)) | fail "no step"))
  (repeat ((rename _ ∧ _ => hAnd); (obtain ⟨_, _⟩ := hAnd)))
  refine' tab_fin hret ?F ?N ?P ?qz1 ?qz2 ?qz3 ?qz4 ?qz5 ?qz6 ?qz7 ?qz8 ?qz9 ?qz10 ?qz11 ?qz12 ?qz13 ?qz14 ?qz15
  case F => assumption
  case N => assumption
  case P =>
    refine' TabIn.mk ?T1 ?T2 ?ev ?ep ?ei ?ew ?en
    case T1 =>
      refine' TabOne.mk ?tb1 ?tb2 ?tb3 ?tb4 ?tb5
      case tb1 => (repeat (first | exact List.Mem.head _ | apply List.Mem.tail))
      case tb2 => (repeat (first | exact List.Mem.head _ | apply List.Mem.tail))
      case tb3 => (repeat (first | exact List.Mem.head _ | apply List.Mem.tail))
      case tb4 => with_reducible assumption
      case tb5 => with_reducible assumption
    case T2 =>
      refine' TabOne.mk ?tc1 ?tc2 ?tc3 ?tc4 ?tc5
      case tc1 => (repeat (first | exact List.Mem.head _ | apply List.Mem.tail))
      case tc2 => (repeat (first | exact List.Mem.head _ | apply List.Mem.tail))
      case tc3 => (repeat (first | exact List.Mem.head _ | apply List.Mem.tail))
      case tc4 => with_reducible assumption
      case tc5 => with_reducible assumption
    case ev => exact ent_var (.tail _ (.tail _ (.tail _ (.tail _ (.tail _ (.tail _ (.tail _ (.tail _ (.tail _ (.tail _ (.head _))))))))))) (.inl rfl)
    case ep => exact ent_par (.tail _ (.tail _ (.tail _ (.tail _ (.tail _ (.tail _ (.tail _ (.tail _ (.tail _ (.head _))))))))))
    case ei => exact ent_inp (.tail _ (.tail _ (.tail _ (.tail _ (.tail _ (.tail _ (.tail _ (.head _)))))))) (.tail _ (.tail _ (.tail _ (.tail _ (.tail _ (.tail _ (.tail _ (.tail _ (.head _)))))))))
    case ew => exact ent_var (.tail _ (.tail _ (.head _))) (.inr rfl)
    case en => exact ent_net (.head _) (.tail _ (.head _))
  all_goals (try dsimp only)
  all_goals first | (first | with_reducible assumption | exact PySem.W.allLt_of (by with_reducible assumption)) | exact allLt_trans (by with_reducible assumption) (by (first | with_reducible assumption | exact PySem.W.allLt_of (by with_reducible assumption)))
open PySem PySem.W PySem.Calls PyProof.Rows PySem.Spec

/-! what the rows are: few, and of plain texts -/
def LayRow (d : PyData) : Prop := d.canLay0 = true ∧ d.depth ≤ 1
abbrev LayRows (ds : Rws) : Prop := ∀ d ∈ ds, LayRow d
theorem lay_row {k : String} {i : Int} {x : Str} (h1 : PyData.strOk (Str.ofString k) = true) (h2 : PyData.strOk x = true) : LayRow (row k i x) := by
  refine ⟨?_, ?_⟩
  · simp only [PyData.canLay0, PyData.canLayAll0, h1, h2, Bool.and_self]
  · simp only [PyData.depth, PyData.depthAll]; decide
theorem lay_nil : LayRows [] := fun _ h => nomatch h
theorem lay_one {d : PyData} (h : LayRow d) : LayRows [d] := fun _ hd => List.mem_singleton.mp hd ▸ h
theorem lay_append {a b : Rws} (h : LayRows a) (k : LayRows b) : LayRows (a ++ b) := fun d hd => (List.mem_append.mp hd).elim (h d) (k d)
theorem lay_flat {rss : List Rws} (h : ∀ r ∈ rss, LayRows r) : LayRows rss.flatten := fun d hd => by
  obtain ⟨r, hr, hd⟩ := List.mem_flatten.mp hd
  exact h r hr d hd
theorem paired_mem {α β : Type} {F : α → β → Prop} : ∀ {l₁ : List α} {l₂ : List β}, Paired F l₁ l₂ → ∀ b ∈ l₂, ∃ a, F a b := by
  intro l₁ l₂ h
  induction h with
  | nil => exact fun _ h => absurd h List.not_mem_nil
  | cons x _ ih =>
    intro b h
    rcases List.mem_cons.mp h with rfl | h
    · exact ⟨_, x⟩
    · exact ih b h

theorem idLay {i : Int} {x : Str} : LayRows (idRows i x) := by
  unfold idRows
  split
  · rename_i h
    exact lay_one (lay_row (by decide +kernel) (h ▸ by decide +kernel))
  · exact lay_nil
theorem tgLay {i : Int} {x : Str} : LayRows (tgRows i x) := by
  unfold tgRows
  (repeat' split) <;> first
    | exact lay_nil
    | (rename_i h; exact lay_one (lay_row (by decide +kernel) (h ▸ by decide +kernel)))
theorem exLay {led : Led} : ∀ {n : Nat} {v : Value} {rows : Rws}, ExIn led n v rows → LayRows rows := by
  have leaf : ∀ {v : Value} {rows : Rws}, LeafIn led v rows → LayRows rows := by
    rintro v rows (⟨_, _, _, _, _, _, _, _, _, _, rfl⟩ | ⟨_, _, _, _, _, _, _, rfl⟩)
    · exact idLay
    · exact lay_nil
  intro n
  induction n with
  | zero => exact fun h => leaf h
  | succ n ih =>
    rintro v rows (h | ⟨_, _, _, _, _, _, _, _, _, _, _, _, h1, h2, rfl⟩ | ⟨_, _, _, _, _, _, _, vs, rss, _, _, _, _, hp, rfl⟩)
    · exact leaf h
    · exact lay_append (ih h1) (ih h2)
    · refine lay_flat fun r hr => ?_
      obtain ⟨a, ha⟩ := paired_mem hp r hr
      exact ih ha
theorem timeLay {i : Int} : LayRow (row "timing_in_function" i (Str.ofString "")) := lay_row (by decide +kernel) (by decide +kernel)
theorem twiceLay {i : Int} : LayRow (row "default_twice" i (Str.ofString "")) := lay_row (by decide +kernel) (by decide +kernel)

theorem setLay {led : Led} {v : Value} {rows : Bool → Rws} (b : Bool) : SetIn led v rows → LayRows (rows b) := by
  rintro ⟨_, _, _, _, _, _, _, _, _, _, _, _, _, _, _, _, _, _, he, e⟩
  rw [e]; exact lay_append tgLay (exLay he)
theorem delayLay {led : Led} {R : Value → (Bool → Rws) → Prop} (b : Bool) (hR : ∀ v rs, R v rs → LayRows (rs b)) {v : Value} {rows : Bool → Rws} : DelayIn led R v rows → LayRows (rows b) := by
    rintro ⟨_, _, _, _, _, _, _, _, _, _, _, he, hs, e⟩
    rw [e]
    refine lay_append (lay_append ?_ (exLay he)) (hR _ _ hs)
    cases b
    · exact lay_one timeLay
    · exact lay_nil
theorem branchLay {led : Led} {R : Value → (Bool → Rws) → Prop} (b : Bool) (hR : ∀ v rs, R v rs → LayRows (rs b)) {v : Value} {d : Bool × (Bool → Rws)} : BranchIn led R v d → LayRows (d.2 b) := by
    rintro ⟨_, _, _, _, _, _, _, hs, ⟨_, e⟩ | ⟨_, _, _, rss, _, _, _, hp, e⟩⟩
    · rw [e]; exact hR _ _ hs
    rw [e]
    refine lay_append (lay_flat fun r hr => ?_) (hR _ _ hs)
    obtain ⟨a, ha⟩ := paired_mem hp r hr
    exact exLay ha
theorem caseLay {led : Led} {R : Value → (Bool → Rws) → Prop} (b : Bool) (hR : ∀ v rs, R v rs → LayRows (rs b)) {v : Value} {rows : Bool → Rws} : CaseIn led R v rows → LayRows (rows b) := by
    rintro ⟨_, _, _, _, _, _, _, _, _, _, _, ds, _, _, he, _, _, hp, e⟩
    rw [e]
    refine lay_append (lay_append (exLay he) (lay_flat fun r hr => ?_)) ?_
    · obtain ⟨d, hd, rfl⟩ := List.mem_map.mp hr
      obtain ⟨a, ha⟩ := paired_mem hp d hd
      exact branchLay b hR ha
    · split
      · exact lay_one twiceLay
      · exact lay_nil
theorem stLay {led : Led} (b : Bool) : ∀ {n : Nat} {v : Value} {rows : Bool → Rws}, StIn led n v rows → LayRows (rows b) := by
  intro n
  induction n with
  | zero => exact fun h => setLay b h
  | succ n ih =>
    rintro v rows (h | ⟨_, rfl⟩ | h | h)
    · exact setLay b h
    · exact lay_nil
    · exact delayLay b (fun _ _ h => ih h) h
    · exact caseLay b (fun _ _ h => ih h) h

/-! their number -/
theorem flat_len {rss : List Rws} {k : Nat} (h : ∀ r ∈ rss, r.length ≤ k) : rss.flatten.length ≤ rss.length * k := by
  induction rss with
  | nil => simp
  | cons a t ih =>
    have h1 := h a (.head _)
    have h2 := ih fun r hr => h r (.tail _ hr)
    rw [List.flatten_cons, List.length_append, List.length_cons, Nat.succ_mul]
    omega
theorem exLen1 {led : Led} {v : Value} {rows : Rws} (h : ExIn led 1 v rows) : rows.length ≤ 2 := exLen h
theorem exsLen {led : Led} {vs : List Value} {rss : List Rws} (h : Paired (ExIn led 1) vs rss) (hv : vs.length ≤ 2) : rss.flatten.length ≤ 4 := by
  have h1 := flat_len (rss := rss) (k := 2) fun r hr => by
    obtain ⟨a, ha⟩ := paired_mem h r hr
    exact exLen1 ha
  have h2 := Paired.length h
  have h3 : rss.length * 2 ≤ 2 * 2 := Nat.mul_le_mul_right _ (by omega)
  omega
theorem setLen {led : Led} {v : Value} {rows : Bool → Rws} (b : Bool) : SetIn led v rows → (rows b).length ≤ 3 := by
    rintro ⟨_, _, _, _, _, _, _, _, _, _, _, _, _, _, _, _, _, _, he, e⟩
    rw [e]; dsimp only; rw [List.length_append]
    have h1 := exLen1 he
    have h2 : ∀ {i : Int} {x : Str}, (tgRows i x).length ≤ 1 := by intro i x; unfold tgRows; (repeat' split) <;> simp
    exact Nat.add_le_add h2 h1
theorem branchLen {led : Led} {R : Value → (Bool → Rws) → Prop} {k : Nat} (b : Bool) (hR : ∀ v rs, R v rs → (rs b).length ≤ k) {v : Value} {d : Bool × (Bool → Rws)} : BranchIn led R v d → (d.2 b).length ≤ 4 + k := by
    rintro ⟨_, _, _, _, _, _, _, hs, ⟨_, e⟩ | ⟨_, _, _, rss, _, _, hv, hp, e⟩⟩
    · rw [e]; have := hR _ _ hs; dsimp only; omega
    rw [e]; dsimp only; rw [List.length_append]
    have h1 := exsLen hp hv
    have h2 := hR _ _ hs
    omega
theorem caseLen {led : Led} {R : Value → (Bool → Rws) → Prop} {k : Nat} (b : Bool) (hR : ∀ v rs, R v rs → (rs b).length ≤ k) {v : Value} {rows : Bool → Rws} : CaseIn led R v rows → (rows b).length ≤ 3 + 4 * (4 + k) := by
    rintro ⟨_, _, _, _, _, _, _, _, _, _, vs, ds, _, _, he, _, hv, hp, e⟩
    rw [e]; simp only [caseRows]; rw [List.length_append, List.length_append]
    have h1 := exLen1 he
    have h2 := flat_len (rss := ds.map fun d => d.2 b) (k := 4 + k) fun r hr => by
      obtain ⟨d, hd, rfl⟩ := List.mem_map.mp hr
      obtain ⟨a, ha⟩ := paired_mem hp d hd
      exact branchLen b hR ha
    rw [List.length_map] at h2
    have h3 := Paired.length hp
    have h4 : ds.length * (4 + k) ≤ 4 * (4 + k) := Nat.mul_le_mul_right _ (by omega)
    have h5 : (if 1 < (ds.filter (·.1)).length then [row "default_twice" ‹Int› (Str.ofString "")] else []).length ≤ 1 := by split <;> simp
    omega
theorem stLen {led : Led} (b : Bool) {k : Nat} {n : Nat} (ih : ∀ v rs, StIn led n v rs → (rs b).length ≤ k) (hk : 3 ≤ k) {v : Value} {rows : Bool → Rws} : StIn led (n + 1) v rows → (rows b).length ≤ 3 + 4 * (4 + k) := by
  rintro (h | ⟨_, e⟩ | ⟨_, _, _, _, _, _, _, _, _, _, _, he, hs, e⟩ | h)
  · have := setLen b h; omega
  · rw [e]; simp
  · rw [e]; dsimp only; rw [List.length_append, List.length_append]
    have h1 := exLen1 he
    have h2 := ih _ _ hs
    have h3 : (if b = true then [] else [row "timing_in_function" ‹Int› (Str.ofString "")]).length ≤ 1 := by split <;> simp
    omega
  · exact caseLen b ih h
theorem caseLen2 {led : Led} {b : Bool} {v : Value} {rows : Bool → Rws} (h : CaseIn led (StIn led 2) v rows) : (rows b).length ≤ 90000 := by
  have h0 : ∀ v rs, StIn led 0 v rs → (rs b).length ≤ 3 := fun v rs h => setLen b h
  have h1 : ∀ v rs, StIn led 1 v rs → (rs b).length ≤ 31 := fun v rs h => stLen b h0 (by omega) h
  have h2 : ∀ v rs, StIn led 2 v rs → (rs b).length ≤ 143 := fun v rs h => stLen b h1 (by omega) h
  have := caseLen b h2 h
  omega
theorem caseLay2 {led : Led} {b : Bool} {v : Value} {rows : Bool → Rws} (h : CaseIn led (StIn led 2) v rows) : LayRows (rows b) := caseLay b (fun _ _ h => stLay b h) h

/-! two lists of the same rows are equal -/
theorem reads_row {h₀ h : Heap} {L : Addr} {led : Led} (N : News h₀ L h led) {v : Value} {d : PyData} : RowIn led v d → ∃ as, Reads h v d as
  | ⟨a, n, k, t0, i, t1, x, t2, e, hm, hd⟩ => by
    rw [e, hd]
    exact ⟨_, reads_tuple_at (News.get N hm) rfl rfl (.cons (Reads.str _ _) (.cons (Reads.int _ _) (.cons (Reads.str _ _) .nil)))⟩
theorem reads_rows {h₀ h : Heap} {L : Addr} {led : Led} (N : News h₀ L h led) : ∀ {vs : List Value} {ds : Rws}, RowsIn led vs ds → ∃ as, ReadsAll h vs ds as := by
  intro vs ds h
  induction h with
  | nil => exact ⟨_, .nil⟩
  | cons h _ ih =>
    obtain ⟨a, ha⟩ := reads_row N h
    obtain ⟨b, hb⟩ := ih
    exact ⟨_, .cons ha hb⟩
theorem lay_all : ∀ {ds : Rws}, LayRows ds → PyData.canLayAll0 ds = true ∧ PyData.depthAll ds ≤ 1
  | [], _ => ⟨by simp only [PyData.canLayAll0], by simp only [PyData.depthAll]; omega⟩
  | d :: ds, h => by
    obtain ⟨h1, h2⟩ := lay_all (ds := ds) fun x hx => h x (.tail _ hx)
    obtain ⟨h3, h4⟩ := h d (.head _)
    refine ⟨by simp only [PyData.canLayAll0, h1, h3, Bool.and_self], ?_⟩
    simp only [PyData.depthAll]
    omega
theorem shaped_rows {ds : Rws} (h : LayRows ds) : SeqAt.shaped (.list ds) = true := by
  obtain ⟨h1, h2⟩ := lay_all h
  unfold SeqAt.shaped
  simp only [PyData.canLay0, PyData.depth, h1, Bool.true_and]
  exact decide_eq_true (by omega)
theorem eq_rows {prog : Program} {w : World} {A : Around} {s : Shared} {h₀ : Heap} {L a b : Addr} {led : Led} {vs ws : List Value} {n n2 : Nat} {ds : Rws} {Q : Value → Shared → Prop} {E : Value → Shared → Prop}
    (N : News h₀ L s.heap led) (ha : (a, listOf vs.toArray n) ∈ led) (hb : (b, listOf ws.toArray n2) ∈ led) (h1 : RowsIn led vs ds) (h2 : RowsIn led ws ds) (hl : LayRows ds) (hu : A.units + 64 < cLine) (h : Q (.bool true) s) :
    wpAny (model prog w) A (compareOp .Eq (.ref a) (.ref b)) Q E s := by
  obtain ⟨as, r1⟩ := reads_rows N h1
  obtain ⟨bs, r2⟩ := reads_rows N h2
  refine eq_dataH (reads_list_at (News.get N ha) rfl rfl r1) (reads_list_at (News.get N hb) rfl rfl r2) (shaped_rows hl) (shaped_rows hl) hu ?_
  rw [show PyData.eqv (.list ds) (.list ds) = true from SeqAt.eqv_refl _ (SeqAt.canLay_of_shaped (shaped_rows hl))]
  exact h
theorem ne_rows {prog : Program} {w : World} {A : Around} {s : Shared} {h₀ : Heap} {L a b : Addr} {led : Led} {vs ws : List Value} {n n2 : Nat} {ds : Rws} {Q : Value → Shared → Prop} {E : Value → Shared → Prop}
    (N : News h₀ L s.heap led) (ha : (a, listOf vs.toArray n) ∈ led) (hb : (b, listOf ws.toArray n2) ∈ led) (h1 : RowsIn led vs ds) (h2 : RowsIn led ws ds) (hl : LayRows ds) (hu : A.units + 64 < cLine) (h : Q (.bool false) s) :
    wpAny (model prog w) A (compareOp .NotEq (.ref a) (.ref b)) Q E s := by
  obtain ⟨as, r1⟩ := reads_rows N h1
  obtain ⟨bs, r2⟩ := reads_rows N h2
  refine ne_dataH (reads_list_at (News.get N ha) rfl rfl r1) (reads_list_at (News.get N hb) rfl rfl r2) (shaped_rows hl) (shaped_rows hl) hu ?_
  rw [show PyData.eqv (.list ds) (.list ds) = true from SeqAt.eqv_refl _ (SeqAt.canLay_of_shaped (shaped_rows hl))]
  exact h
end
section
open PySem PySem.W PySem.Calls PyProof.Rows PySem.Spec
theorem frag_on30 : (hdS.heap_1 = hdS.heap_1 ∧ PySem.Challenge.rw_on0122_01 = PySem.Challenge.rw_on0122_01) := by
  k_fill
  exact ⟨rfl, rfl⟩
local macro_rules | `(tactic| k_mem) => `(tactic| first | ktr_member | (refine List.mem_cons_of_mem _ ?_; k_mem))

theorem PDoes.useA {w : World} {f : Addr} {cost : Nat} {args : List Value} {rest : Led} {Post : Value → Led → Prop}
    {dp un : Nat} {gd : Option (List Code)} {env : Env} {outer : List Env} {A₀ : Around} {base h₀ : Heap} {L : Addr} {m : Str → Option Value} {mean : ExcName → Option Value} {mg mb : Str → Option Value} {s : Shared} {Q E : Value → Shared → Prop}
    (B : Below A₀ base outer h₀) (F : Fr h₀ L s.heap m) (X : (hdS.heap_1 w.params).In h₀) (N : News h₀ L s.heap rest) (T : Top hdS.view_1 (looseW hdS.view_1 [Str.ofString "check_target", Str.ofString "check_target_name"]) mean mg mb h₀)
    (fr : env.frame = some L) (kd : env.scope.kind = .function) (D : PDoes w f cost args rest Post) (hdp : dp + cost < recursionLimit) (hun : un + 8 * cost < cLine)
    (ret : ∀ r tl h' tk', Fr h₀ L h' m → News h₀ L h' (rest ++ tl) → Above rest tl → Post r tl → Q r { s with heap := h', toks := tk' }) :
    wpAny (model PySem.Challenge.rw_on0122_01.row.prog w) { handled := none, depth := dp, frames := some (env :: outer), guards := gd, units := un } (call (.ref f) args) Q E s :=
  PDoes.use B F X N T fr kd D hdp hun ret

theorem rowsUp {led led' : Led} {vs : List Value} {d : Rws} (h : RowsIn led vs d) (hs : ∀ p ∈ led, p ∈ led') : RowsIn led' vs d := h.mono hs
theorem repAt_of {h₀ h : Heap} {L l r dx : Addr} {o : Obj} {h1 h2 h3 : Int} {t1 t2 t3 : Tok} {v1 v2 : Value} {n : Nat} {led : Led} (_N : News h₀ L h ((l, o) :: (r, instObj 38 dx) :: (dx, dictOf [⟨h1, tx "names" t1, v1⟩, ⟨h2, tx "nettype" t2, v2⟩, ⟨h3, tx "rows" t3, .ref l⟩] n) :: led)) :
    RepAt r l ((r, instObj 38 dx) :: (dx, dictOf [⟨h1, tx "names" t1, v1⟩, ⟨h2, tx "nettype" t2, v2⟩, ⟨h3, tx "rows" t3, .ref l⟩] n) :: led) := ⟨dx, h1, t1, v1, h2, t2, v2, h3, t3, n, .head _, .tail _ (.head _)⟩
theorem above_off {l : Addr} {o : Obj} {led tl : Led} (h : Above ((l, o) :: led) tl) : Off l tl := fun p hp => Nat.ne_of_gt (h _ (.head _) p hp)
theorem news_off {h₀ h : Heap} {L l : Addr} {o : Obj} {led rest : Led} (_N : News h₀ L h ((l, o) :: led)) (h : AllLt l rest) : Off l rest := fun p hp => Nat.ne_of_lt (ktn_ltOf h p hp)
theorem caseRowsU {w : World} {rest : Led} {v : Value} {rows : Bool → Rws} {b : Bool} (h : CaseIn rest (StIn rest 2) v rows) (hl : (rows b).length ≤ 90000) : LDoes w 297 10 [v, .bool b] rest (rows b) := caseRows2 h hl

set_option maxHeartbeats 8000000 in
theorem checked0 {w : World} {rest : Led} {v : Value} {rows : Bool → Rws} {b : Bool} (hS : CaseIn rest (StIn rest 2) v rows) : PDoes w 311 13 [v, .bool b] rest (fun r _ => r = .bool true) := by
  have hlen : (rows b).length ≤ 90000 := caseLen2 hS
  have hlay : LayRows (rows b) := caseLay2 hS
  intro dp un gd env outer A₀ base h₀ L m mean mg mb s Q E HA hd hu hret
  obtain ⟨B, F, X, N, T, fr, kd⟩ := HA
  refine wpAny_call ?_
  k_dflt ktr_enter
  repeat' (first | (fail_if_success (with_reducible show wpAny _ _ (call (Value.ref 205) _ _) _ _ _)); first | ((with_reducible show wpAny _ _ _ _ _ (Shared.mk _ _ _ (_ + 1 + 1) _)); (refine forgetT ?_); (intro tk9); (try dsimp only)) | ((with_reducible show wpAny _ _ (PySem.exec _ _) _ _ _); ((fail_if_success (refine' hidden_test ?hQ ?_; (case hQ => with_reducible assumption))); (refine' hideQ ?_); (intro Q9 hQ9))) | (k_unfold; (try dsimp only)) | (k_end; wrow_close) | ((with_reducible show wpAny _ _ (call _ _ _) _ _ _); (first | with_reducible (k_here; (with_reducible show wpAny _ _ (call (Value.ref 297) [_, Value.bool _] _) _ _ _); k_dflt (refine' LDoes.use ?k1 ?k2 ?k3 ?k4 ?k5 ?k6 ?k7 (caseRowsU ?h0 ?h1) ?kd ?ku ?_; (case k1 => k_asm); (case k2 => k_asm); (case k3 => k_asm); (case k4 => k_asm); (case k5 => k_asm); (case k6 => first | exact rfl | assumption); (case k7 => first | exact rfl | assumption); (case h0 => first | assumption | exact CaseIn.up (by assumption) (by tb_start)); (case h1 => assumption); (case kd => (try dsimp only [Around.deeper]); omega); (case ku => (try dsimp only [Around.deeper]); omega)); (intro a' vs' n' tl' h' tk' F' N' hl' ho1' ho2' hab' hr'); (have hlen' := Paired.length hr'); (try simp only [List.nil_append, List.cons_append, List.append_nil, List.append_assoc] at N'); (try k_sweep); (try dsimp only); (try k_fold)) | with_reducible (k_here; (with_reducible show wpAny _ _ (call (Value.ref 304) _ _) _ _ _); k_dflt (refine' PDoes.useA ?k1 ?k2 ?k3 ?k4 ?k5 ?k6 ?k7 tables0 ?kd ?ku ?_; (case k1 => k_asm); (case k2 => k_asm); (case k3 => k_asm); (case k4 => k_asm); (case k5 => k_asm); (case k6 => first | exact rfl | assumption); (case k7 => first | exact rfl | assumption); (case kd => (try dsimp only [Around.deeper]); omega); (case ku => (try dsimp only [Around.deeper]); omega)); (intro tv' tlt' h' tk' F' N' habt' hT'); (try simp only [List.nil_append, List.cons_append, List.append_nil, List.append_assoc] at N'); (try k_sweep); (try dsimp only); (try k_fold)))) | with_reducible (k_here; (with_reducible show wpAny _ _ (compareOp CmpOp.Eq (Value.ref _) (Value.ref _)) _ _ _); k_dflt (refine' eq_rows ?N ?a ?b ?r1 ?r2 ?l ?u ?_; (case N => k_asm); (case a => k_mem); (case b => k_mem); (case r1 => exact rowsUp (by assumption) (by tb_start)); (case r2 => exact rowsUp (by assumption) (by tb_start)); (case l => assumption); (case u => (try dsimp only [Around.deeper]); omega))) | walk1 | ((refine' Hid.use ?hQ ?_); (case hQ => with_reducible assumption); (try dsimp only)) | dsimp only | (leave1; try dsimp only at *) | fail "no step")
  with_reducible rename News _ _ _ _ => N9
  with_reducible rename Above _ _ => hab9
  have hAt := repAt_of N9
  have hJ9 : Rep [] [] (listOf (#[] : Array Value) 0) := ⟨[], 0, rfl, .nil⟩
  have hOt := above_off hab9
  with_reducible rename _ ∧ _ ∧ _ ∧ AllLt _ _ => hl9
  have hO9 := news_off N9 hl9.2.2.2
  have hC9 : ChkC w 2 11 := chkC2
  k_here
  (with_reducible show wpAny _ _ (call (Value.ref 205) [Value.ref _, _, _, Value.bool _] _) _ _ _)
  k_dflt (refine' MDoes.use ?k1 ?k2 ?k3 ?k4 ?k5 ?k6 ?k7 ?kP (ChkC.use ?h0 ?h1 ?h2 ?h3 ?h4 ?h5) ?kJ ?kO ?kd ?ku ?_; (case k1 => k_asm); (case k2 => k_asm); (case k3 => k_asm); (case k4 => k_asm); (case k5 => k_asm); (case k6 => first | exact rfl | assumption); (case k7 => first | exact rfl | assumption); (case kJ => assumption); (case kP => repeat (first | exact Pick.head | apply Pick.tail)); (case h5 => assumption); (case h0 => exact RepAt.up (by assumption) (by tb_start)); (case h1 => tb_start); (case h3 => exact TabIn.up (by assumption) (by tb_start)); (case h4 => first | assumption | exact CaseIn.up (by assumption) (by tb_start)); (case h2 => first | omega | (simp only [List.length_append, List.length_cons, List.length_nil] at *; omega)); (case kO => k_all); (case kd => (try dsimp only [Around.deeper]); omega); (case ku => (try dsimp only [Around.deeper]); omega))
  (intro r' o' tl' h' tk' F' N' hf' ho' hP')
  (obtain ⟨e1', hJ'⟩ := hP')
  (subst e1')
  (try simp only [List.nil_append, List.cons_append, List.append_nil, List.append_assoc] at N')
  (try k_sweep)
  (try dsimp only)
  (try k_fold)
  obtain ⟨vs9, n9, rfl, hr9⟩ := hJ'
  simp only [List.nil_append] at hr9
  (repeat' (first | ((with_reducible show wpAny _ _ _ _ _ (Shared.mk _ _ _ (_ + 1 + 1) _)); (refine forgetT ?_); (intro tk9); (try dsimp only)) | ((with_reducible show wpAny _ _ (PySem.exec _ _) _ _ _); ((fail_if_success (refine' hidden_test ?hQ ?_; (case hQ => with_reducible assumption))); (refine' hideQ ?_); (intro Q9 hQ9))) | (k_unfold; (try dsimp only)) | (k_end; wrow_close) | ((with_reducible show wpAny _ _ (call _ _ _) _ _ _); (first | with_reducible (k_here; (with_reducible show wpAny _ _ (call (Value.ref 297) [_, Value.bool _] _) _ _ _); k_dflt (refine' LDoes.use ?k1 ?k2 ?k3 ?k4 ?k5 ?k6 ?k7 (caseRowsU ?h0 ?h1) ?kd ?ku ?_; (case k1 => k_asm); (case k2 => k_asm); (case k3 => k_asm); (case k4 => k_asm); (case k5 => k_asm); (case k6 => first | exact rfl | assumption); (case k7 => first | exact rfl | assumption); (case h0 => first | assumption | exact CaseIn.up (by assumption) (by tb_start)); (case h1 => assumption); (case kd => (try dsimp only [Around.deeper]); omega); (case ku => (try dsimp only [Around.deeper]); omega)); (intro a' vs' n' tl' h' tk' F' N' hl' ho1' ho2' hab' hr'); (have hlen' := Paired.length hr'); (try simp only [List.nil_append, List.cons_append, List.append_nil, List.append_assoc] at N'); (try k_sweep); (try dsimp only); (try k_fold)) | with_reducible (k_here; (with_reducible show wpAny _ _ (call (Value.ref 304) _ _) _ _ _); k_dflt (refine' PDoes.useA ?k1 ?k2 ?k3 ?k4 ?k5 ?k6 ?k7 tables0 ?kd ?ku ?_; (case k1 => k_asm); (case k2 => k_asm); (case k3 => k_asm); (case k4 => k_asm); (case k5 => k_asm); (case k6 => first | exact rfl | assumption); (case k7 => first | exact rfl | assumption); (case kd => (try dsimp only [Around.deeper]); omega); (case ku => (try dsimp only [Around.deeper]); omega)); (intro tv' tlt' h' tk' F' N' habt' hT'); (try simp only [List.nil_append, List.cons_append, List.append_nil, List.append_assoc] at N'); (try k_sweep); (try dsimp only); (try k_fold)))) | with_reducible (k_here; (with_reducible show wpAny _ _ (compareOp CmpOp.Eq (Value.ref _) (Value.ref _)) _ _ _); k_dflt (refine' eq_rows ?N ?a ?b ?r1 ?r2 ?l ?u ?_; (case N => k_asm); (case a => k_mem); (case b => k_mem); (case r1 => exact rowsUp (by assumption) (by tb_start)); (case r2 => exact rowsUp (by assumption) (by tb_start)); (case l => assumption); (case u => (try dsimp only [Around.deeper]); omega))) | walk1 | ((refine' Hid.use ?hQ ?_); (case hQ => with_reducible assumption); (try dsimp only)) | dsimp only | (leave1; (try dsimp only)) | fail "no step"))
  refine' PDoes.fin hret ?F ?N [] ?S (fun _ _ _ h => nomatch h) rfl
  case F => assumption
  case N => assumption
  case S => (rw [List.append_nil]; tb_start)
open PySem PySem.W PySem.Calls PyProof.Rows PySem.Spec

section
variable {prog : Program} {w : World} {A : Around} {E : Value → Shared → Prop} {s : Shared}
/-- a subscript of a value that no name holds -/
theorem sub_tmp {value slice : Expr} {o i : Value} {T id : String} {ops : List Value} {Q : Value → Shared → Prop} (hT : s.TypeIs o T)
    (hl : typeLookup (.type T) "__getitem__" = pure (some (.builtin id))) (h : wpAny (model prog w) A (getItem o i) Q E s)
    (hs : subscripted slice false o i = operate ops (getItem o i)) : wpAny (model prog w) A (subscriptTail value slice o i) Q E s := by
  unfold subscriptTail
  refine wpAny_bind ?_
  rw [getitemInPython_of_ne hT.not_modules]
  refine wpAny_bind (wpAny_specialOf hT hl ?_)
  have fin : wpAny (model prog w) A (subscripted slice false o i) (fun r s₃ => wpAny (model prog w) A (letTemporaryGo value o r >>= fun _ => pure r) Q E s₃) E s := by
    rw [hs]
    exact wpAny_operating (wpAny_mono h (fun r s₃ h₃ => wpAny_bind (wpAny_letTemporaryGo (wpAny_pure h₃))) fun _ _ x => x)
  first
    | exact wpAny_pure (wpAny_bind fin)
    | exact wpAny_bind (wpAny_pure (wpAny_bind fin))
    | exact wpAny_bind fin

theorem slice_tmp {h₀ : Heap} {L l : Addr} {m : Str → Option Value} {news : Led} {value slice : Expr} {vs : List Value} {ns : List Int} {vl vu : Value} {y : Int} {Q : Value → Shared → Prop}
    (F : Fr h₀ L s.heap m) (N : News h₀ L s.heap news) (hl : s.heap.IsList l vs.toArray) (pl : IsPart vl none) (pu : IsPart vu (some y)) (hi : IntsAre vs ns) (h0 : 0 ≤ y)
    (h : ∀ D ws h', Fr h₀ L h' m → News h₀ L h' ((D, listOf (List.toArray ws) 0) :: news) → (∀ p ∈ news, p.1 < D) → IntsAre ws (ns.take y.toNat) → Q (.ref D) { s with heap := h' })
    (hs : subscripted slice false (.ref l) (.ref s.heap.objs.size) = operate [.ref s.heap.objs.size, .ref l] (getItem (.ref l) (.ref s.heap.objs.size)))
    (hsz : vs.toArray.size ≤ sizeLine) :
    wpAny (model prog w) A (subscriptTail value slice (.ref l) (.ref s.heap.objs.size)) Q E { s with heap := s.heap.push { cls := .type "slice", data := .fields #[vl, vu, .none] } } := by
  refine sub_tmp (Heap.IsList.typeIs (s := { s with heap := s.heap.push { cls := .type "slice", data := .fields #[vl, vu, .none] } }) (hl.push _)) list_getitem_lookup
    (wpAny_getItem_list_slice (hl.push _) (Heap.IsSliceOf.new ..) pl pu .none (by simp) ?_ hsz) hs
  have N1 := News.push (F.push { cls := .type "slice", data := .fields #[vl, vu, .none] }) (N.grown fun _ _ e => Heap.get?_push_of_some _ e) { cls := .type "list", data := .seq (slicePick vs.toArray none (some y) none) }
  rw [Heap.size_push] at N1
  show Q (.ref (s.heap.push _).objs.size) _
  rw [Heap.size_push]
  refine h _ (slicePick vs.toArray none (some y) none).toList _ ((F.push _).push _) ?_ (fun p hp => Nat.lt_succ_of_lt (Heap.lt_size (N p hp).1)) (kmk_upto hi h0)
  rw [Array.toArray_toList]
  exact N1
end
/-! a list comprehension that is assigned to a name -/
section
variable {prog : Program} {w : World} {A : Around} {s : Shared} {env : Env} {h₀ : Heap}
def CompAtA (prog : Program) (w : World) (A : Around) (h₀ : Heap) (L : Addr) (env : Env) (scope : Scope) (cl : List (Str × Addr)) (y : Str) (elt : Expr) (y0 : Str) (Q : Flow → Shared → Prop) (it : Value) (s₂ : Shared) : Prop :=
  ∃ (I : Addr) (fp wr : List Addr) (n : Nat) (P : Nat → Value → Prop) (St : Nat → Heap → Prop) (m : Str → Option Value) (news fix : Led) (J : Nat → List Value → Led → Prop),
    it = .ref I ∧ Iter prog w A h₀ L news fix I fp wr n P St s₂.heap ∧ n ≤ sizeLine ∧ Fr h₀ L s₂.heap m ∧ News h₀ L s₂.heap news ∧ J 0 [] news ∧ (∀ i ys nx, J i ys nx → ∀ p ∈ fix, p ∈ nx) ∧
    (∀ i v ys nx own h tk mC E' C oC, i < n → P i v → ys.length = i → J i ys nx → (∀ p ∈ own, ∀ q ∈ nx, p.1 ≠ q.1) → Fr h₀ L h m → News h₀ L h (nx ++ own) → h.Ns C mC → mC y = some v → (C, oC) ∈ own →
      wpAny (model prog w) A (eval elt (compEnvC scope cl C env)) (fun r s₃ => LedEnd h₀ L own (fun m' nx' => m' = m ∧ J (i + 1) (ys ++ [r]) nx') { s₂ with heap := h, toks := tk } s₃) E' { s₂ with heap := h, toks := tk }) ∧
    (∀ D k ys nx h tk, ys.length = n → J n ys nx → (∀ p ∈ nx, p.1 ≠ D) → (∀ p ∈ news, p.1 < D) → Fr h₀ L h (fun z => if z = y0 then some (.ref D) else m z) → News h₀ L h ((D, listOf ys.toArray k) :: nx) → Q .next { s₂ with heap := h, toks := tk })

theorem comp_block_ledA {elt iter : Expr} {y : Str} {px : Pos} {scope : Scope} {cl : List (Str × Addr)} {pos : Pos} {s₂ : Shared} {L : Addr} {it : Value} {E : Value → Shared → Prop} {y0 : Str} {py : Pos} {Q : Flow → Shared → Prop} (hLe : env.locals = L) (hy0 : env.kindOf y0 = some .local) (hp0 : (env.scope.kind == .class || (env.scope.kind == .module && env.locals != env.globals)) = false)
    (hcell : ∀ z ∈ scope.names, z.2 ≠ .cell) (hkind : scope.kind = .function) (hx : scope.names.lookup y = some .local)
    (h : CompAtA prog w A h₀ L env scope cl y elt y0 Q it s₂) :
    wpAny (model prog w) A (newList []) (fun acc s₃ => wpAny (model prog w) A (newFunctionEnv scope env.globals cl [] env.qual none .none (some env)) (fun cenv s₄ =>
      codeAny (model prog w) A (.compStart (.ListComp elt [⟨.Name y px, iter, [], 0⟩] scope pos) 0 it acc { cenv with scope := relabel scope env }) (compPost (model prog w) A E (some (assign (.Name y0 py) env)) (fun _ s' => Q .next s') acc cenv.locals) s₄) E s₃) E s₂ := by
  obtain ⟨I, fp, wr, n, P, St, m, news, fix, J, rfl, x, hsz, F, N, hj, hfix, turn, done⟩ := h
  refine wpAny_newObj_type (wpAny_newFunctionEnv hcell (by intro y hy; simp at hy) (fun h₁ hns₁ hsb₁ => ?_) hkind)
  dsimp only at hns₁ hsb₁ ⊢
  generalize hH2 : s₂.heap.push { cls := .type "list", dict := none, data := .seq ([] : List Value).toArray } = H2 at hns₁ hsb₁ ⊢
  have hC : H2.objs.size = s₂.heap.objs.size + 1 := by rw [← hH2, Heap.size_push]
  have hDC : s₂.heap.objs.size ≠ H2.objs.size := by rw [hC]; exact Nat.ne_of_lt (Nat.lt_succ_self _)
  have below : ∀ b, b < s₂.heap.objs.size → b ≠ H2.objs.size ∧ b ≠ s₂.heap.objs.size := fun b hb => ⟨by rw [hC]; exact Nat.ne_of_lt (Nat.lt_succ_of_lt hb), Nat.ne_of_lt hb⟩
  have old : ∀ b o, s₂.heap.get? b = some o → h₁.get? b = some o := fun b o e => hsb₁.extBut b o (below b (Heap.lt_size e)).1 (Heap.get?_push_of_some _ (hH2 ▸ Heap.get?_push_of_some _ e))
  have hacc : h₁.PlainList s₂.heap.objs.size #[] := ⟨_, hsb₁.extBut _ _ hDC (Heap.get?_push_of_some _ (hH2 ▸ Heap.get?_push_size _ rfl))⟩
  have fresh : ∀ a, s₂.heap.objs.size ≤ a → h₀.get? a = none := fun a ha => by
    cases e : h₀.get? a with
    | none => rfl
    | some o' => exact absurd (Heap.lt_size (F.keep _ _ e)) (Nat.not_lt.mpr ha)
  have hCle : s₂.heap.objs.size ≤ H2.objs.size := by rw [hC]; exact Nat.le_succ _
  have F₁ : Fr h₀ L h₁ m := ⟨F.ns.at' fun o e => old _ o e, fun b o e => old b o (F.keep b o e), F.above⟩
  have N₁ : News h₀ L h₁ news := fun p hp => ⟨old _ _ (N p hp).1, (N p hp).2⟩
  have x₁ : Iter prog w A h₀ L news fix I fp wr n P St h₁ := { x with
    st := x.W.frame _ _ _ x.st fun b _ o e => old b o e
    lt := fun b hb => by
      have h1 := x.lt b hb
      have h2 : H2.objs.size < h₁.objs.size := hns₁.lt
      exact Nat.lt_trans (Nat.lt_of_lt_of_le h1 hCle) h2 }
  have loop : ∀ s₃ : Shared, s₃ = { s₂ with heap := h₁, toks := s₂.toks + ([] : List (Str × Value)).length } →
      codeAny (model prog w) A (.compLoop (.ListComp elt [⟨.Name y px, iter, [], 0⟩] scope pos) 0 (.ref I) (.ref s₂.heap.objs.size) (compEnvC scope cl H2.objs.size env)) (compPost (model prog w) A E (some (assign (.Name y0 py) env)) (fun _ s' => Q .next s') (.ref s₂.heap.objs.size) H2.objs.size) s₃ := by
    rintro s₃ rfl
    have hlt := x.lt
    have hL : L < s₂.heap.objs.size := F.ns.lt
    refine codeAny_compLoop_led (L := L) (cenv := compEnvC scope cl H2.objs.size env) (m := m) (mC := _) J x₁ hsz (lookup_relabel_local hx) (by simp [compEnvC, relabel, hkind]) F₁ N₁ hacc hns₁ hDC (Nat.ne_of_gt hL) (Nat.ne_of_gt (Nat.lt_of_lt_of_le hL hCle))
      (fun hm => Nat.lt_irrefl _ (hlt _ hm)) (fun hm => Nat.lt_irrefl _ (Nat.lt_of_lt_of_le (hlt _ hm) hCle)) (fresh _ (Nat.le_refl _)) (fresh _ hCle)
      (fun p hp => Nat.ne_of_lt (Heap.lt_size (N p hp).1)) (fun p hp => Nat.ne_of_lt (Nat.lt_of_lt_of_le (Heap.lt_size (N p hp).1) hCle)) hj hfix
      (fun i v ys nx own h tk mC E' oC a b c d e f g k l o => turn i v ys nx own h tk mC E' _ oC a b c d e f g k l o) ?_
    intro k ys nx h tk mC hlen hJ hnD F' N' hC' hnC
    subst hLe
    have hCL : H2.objs.size ≠ env.locals := Nat.ne_of_gt (Nat.lt_of_lt_of_le hL hCle)
    show wpAny _ A (assign (.Name y0 py) env (.ref s₂.heap.objs.size)) _ _ _
    refine wpAny_assign_Name (wpAny_storeName_local hy0 F'.ns (fun h₂ hn₂ hs₂ => ?_) hp0)
    have hL₀ : h₀.get? env.locals = none := Heap.get?_none_of_le F'.above
    have F₂ : Fr h₀ env.locals h₂ (fun z => if z = y0 then some (.ref s₂.heap.objs.size) else m z) := ⟨hn₂, fun b o e => hs₂.extBut b o (fun q => by rw [q, hL₀] at e; cases e) (F'.keep b o e), F'.above⟩
    refine ⟨mC, hC'.sameBut hs₂ hCL, fun h'' hs'' => done _ k ys nx h'' _ hlen hJ hnD (fun p hp => Heap.lt_size (N p hp).1) (F₂.change hs'' hCL (fresh _ hCle)) (fun p hp => ?_)⟩
    have z : h₂.get? p.1 = some p.2 := hs₂.extBut _ _ (N' p hp).2.1 (N' p hp).1
    refine ⟨hs''.extBut _ _ ?_ z, (N' p hp).2⟩
    rcases List.mem_cons.mp hp with rfl | hp
    · exact hDC
    · exact hnC p hp
  exact codeAny_compStart_list (loop _ rfl) (x.W.self 0 _ _ _ x₁.st (loop _ rfl))

theorem assign_led {L : Addr} {m : Str → Option Value} {elt iter : Expr} {y y0 : Str} {px py : Pos} {scope : Scope} {cl : List (Str × Addr)} {pos spos : Pos} {Q : Flow → Shared → Prop} {E : Value → Shared → Prop} (_F : Fr h₀ L s.heap m) (hLe : env.locals = L)
    (hsw : swapsWith (.ListComp elt [⟨.Name y px, iter, [], 0⟩] scope pos) (some (.Name y0 py)) spos.line env = pure true)
    (hclos : closureFor scope env = pure cl) (hcell : ∀ z ∈ scope.names, z.2 ≠ .cell) (hkind : scope.kind = .function)
    (hnames : ∀ z ∈ scope.names, z.2 = .local → scope.names.lookup z.1 = some .local) (hx : scope.names.lookup y = some .local)
    (hy0 : env.kindOf y0 = some .local) (hp0 : (env.scope.kind == .class || (env.scope.kind == .module && env.locals != env.globals)) = false)
    (h : wpAny (model prog w) A (eval iter env) (fun xv s₁ => wpAny (model prog w) A (pyIter xv) (fun it s₂ => CompAtA prog w A h₀ L env scope cl y elt y0 Q it s₂) E s₁) E s)
    (hs : ∀ x, foldedSetIterable iter env x = pure x) :
    wpAny (model prog w) A (exec (.Assign [.Name y0 py] (.ListComp elt [⟨.Name y px, iter, [], 0⟩] scope pos) spos) env) Q E s := by
  rw [exec_Assign_Name_used _ _ _ _ hsw]
  refine wpAny_bind (wpAny_standAt (wpAny_bind ?_))
  show wpAny _ A (do let _ ← comprehension (.ListComp elt [⟨.Name y px, iter, [], 0⟩] scope pos) scope env _ (newList []) false (eval iter env) (some (assign (.Name y0 py) env))) _ _ s
  refine wpAny_bind (wpAny_mono (wpAny_comprehension_free (use := some (assign (.Name y0 py) env)) (Q := fun _ s' => Q .next s') rfl hs hclos hkind hnames
    (wpAny_mono h (fun xv s₁ h₁ => wpAny_mono h₁ (fun it s₂ h₂ => ?_) fun _ _ e => e) fun _ _ e => e)) (fun _ s' hq => wpAny_pure (wpAny_pure hq)) fun _ _ e => e)
  exact comp_block_ledA hLe hy0 hp0 hcell hkind hx h₂
end
section
variable {prog : Program} {w : World} {A : Around} {s₂ : Shared} {env : Env} {h₀ : Heap}
theorem comp_jarA {β : Type} {Rel : Led → Value → β → Prop} {I j L : Addr} {o : Obj} {nb R : Led} {fp wr : List Addr} {n k g : Nat} {P : Nat → Value → Prop} {St : Nat → Heap → Prop} {m : Str → Option Value} {scope : Scope} {cl : List (Str × Addr)} {y : Str} {elt : Expr} {y0 : Str} {Q : Flow → Shared → Prop}
    (mono : ∀ a b v x, (∀ p ∈ a, p ∈ b) → Rel a v x → Rel b v x)
    (x : Iter prog w A h₀ L ((j, o) :: nb) [] I fp wr n P St s₂.heap) (hn : n ≤ 8) (F : Fr h₀ L s₂.heap m) (N : News h₀ L s₂.heap ((j, o) :: nb)) (hJ : Jar g R o) (hg : n * k ≤ g)
    (helt : ∀ tl o' g' own h tk C E', k ≤ g' → Jar g' R o' → Off j tl → Off j own → Fr h₀ L h m → News h₀ L h ((j, o') :: (nb ++ (tl ++ own))) →
      wpAny (model prog w) A (eval elt (compEnvC scope cl C env)) (EltEnd Rel h₀ L m j nb (tl ++ own) R (g' - k) { s₂ with heap := h, toks := tk }) E' { s₂ with heap := h, toks := tk })
    (done : ∀ D kk ys tl o' bs h tk, ys.length = n → Paired (Rel tl) ys bs → Jar (g - n * k) R o' → Fresh j nb tl → @LT.lt Nat _ j D → AllLt D nb → Off D tl → Fr h₀ L h (fun z => if z = y0 then some (.ref D) else m z) → News h₀ L h ((D, listOf ys.toArray kk) :: (j, o') :: (nb ++ tl)) → Q .next { s₂ with heap := h, toks := tk }) :
    CompAtA prog w A h₀ L env scope cl y elt y0 Q (.ref I) s₂ := by
  refine ⟨I, fp, wr, n, P, St, m, (j, o) :: nb, [], fun i ys nx => ∃ o' tl bs, nx = (j, o') :: (nb ++ tl) ∧ Jar (g - i * k) R o' ∧ Fresh j nb tl ∧ Paired (Rel tl) ys bs, rfl, x, Nat.le_trans hn (by decide), F, N, ⟨o, [], [], by rw [List.append_nil], by rw [Nat.zero_mul]; exact hJ, fresh_nil, .nil⟩, fun _ _ _ _ p hp => (nomatch hp), ?_, ?_⟩
  · rintro i v ys nx own h tk mC E' C oC hin hP hlen ⟨o', tl, bs, rfl, hJ', hf, hp⟩ hown F' N' _ _ _
    have hk : k ≤ g - i * k := by
      have h1 : (i + 1) * k ≤ n * k := Nat.mul_le_mul_right k hin
      rw [Nat.add_mul, Nat.one_mul] at h1
      omega
    refine wpAny_mono (helt tl o' (g - i * k) own h tk C E' hk hJ' hf.off (fun p hp e => hown p hp (j, o') (.head _) e) F' (News.sub N' fun p hp => ?_)) (fun r s₃ h₃ => ?_) fun _ _ e => e
    · rcases List.mem_cons.mp hp with rfl | hp
      · exact List.mem_append.mpr (.inl (.head _))
      · rcases List.mem_append.mp hp with hp | hp
        · exact List.mem_append.mpr (.inl (.tail _ (List.mem_append.mpr (.inl hp))))
        · rcases List.mem_append.mp hp with hp | hp
          · exact List.mem_append.mpr (.inl (.tail _ (List.mem_append.mpr (.inr hp))))
          · exact List.mem_append.mpr (.inr hp)
    · obtain ⟨h', tk', o'', tl2, b, rfl, F₃, N₃, hf₃, hJ₃, hR₃⟩ := h₃
      refine ⟨h', tk', m, _, (j, o'') :: (nb ++ (tl ++ tl2)), rfl, F₃, N₃, ?_, ?_, ?_, rfl, o'', tl ++ tl2, bs ++ [b], rfl, ?_, ?_, ?_⟩
      · intro p hp
        rcases List.mem_cons.mp hp with rfl | hp
        · exact .head _
        · refine .tail _ ?_
          rcases List.mem_append.mp hp with hp | hp
          · exact List.mem_append.mpr (.inl (List.mem_append.mpr (.inl hp)))
          · rcases List.mem_append.mp hp with hp | hp
            · exact List.mem_append.mpr (.inl (List.mem_append.mpr (.inr (List.mem_append.mpr (.inl hp)))))
            · exact List.mem_append.mpr (.inr hp)
      · intro p hp
        exact .tail _ (List.mem_append.mpr (.inl (List.mem_append.mpr (.inr (List.mem_append.mpr (.inr hp))))))
      · intro p hp q hq
        rcases List.mem_cons.mp hq with rfl | hq
        · exact hown p hp (j, o') (.head _)
        · rcases List.mem_append.mp hq with hq | hq
          · exact hown p hp q (.tail _ (List.mem_append.mpr (.inl hq)))
          · rcases List.mem_append.mp hq with hq | hq
            · exact hown p hp q (.tail _ (List.mem_append.mpr (.inr hq)))
            · exact hf₃.ne p (List.mem_append.mpr (.inr (List.mem_append.mpr (.inr hp)))) q hq
      · have : g - i * k - k = g - (i + 1) * k := by rw [Nat.add_mul, Nat.one_mul]; omega
        rw [← this]; exact hJ₃
      · exact hf.append (hf₃.weak fun p hp => List.mem_append.mpr (.inl hp))
      · exact Paired.snoc (PPaired.mono (fun a b h => mono _ _ _ _ (fun p hp => List.mem_append.mpr (.inl hp)) h) hp) (mono _ _ _ _ (fun p hp => List.mem_append.mpr (.inr hp)) hR₃)
  · rintro D kk ys nx h tk hlen ⟨o', tl, bs, rfl, hJ', hf, hp⟩ hD hlt F' N'
    exact done D kk ys tl o' bs h tk hlen hp hJ' hf (hlt (j, o) (.head _)) (allLt_of fun p hp => hlt p (.tail _ hp)) (fun p hp => hD p (.tail _ (List.mem_append.mpr (.inr hp)))) F' N'
end
open PySem PySem.W PySem.Calls PyProof.Rows PySem.Spec
theorem frag_on33 : (hdS.heap_1 = hdS.heap_1 ∧ PySem.Challenge.rw_on0122_01 = PySem.Challenge.rw_on0122_01) := by
  k_fill
  exact ⟨rfl, rfl⟩

section
variable {prog : Program} {w : World} {A : Around} {s : Shared} {env : Env} {h₀ : Heap}
theorem iter_list2 {t L : Addr} {vs : List Value} {k : Nat} {m : Str → Option Value} {news : Led} {Q : Value → Shared → Prop} {E : Value → Shared → Prop} (hh : A.handled = none)
    (F : Fr h₀ L s.heap m) (N : News h₀ L s.heap news) (hm : (t, listOf vs.toArray k) ∈ news)
    (h : ∀ I St h', Fr h₀ L h' m → News h₀ L h' news → Iter prog w A h₀ L news [(t, listOf vs.toArray k)] I [I, t] [I] vs.length (fun i v => vs[i]? = some v) St h' → (∀ i hp, St i hp → hp.IsListIter I t i) → Q (.ref I) { s with heap := h' }) :
    wpAny (model prog w) A (pyIter (.ref t)) Q E s := by
  have ht : s.heap.IsList t vs.toArray := ⟨_, (N _ hm).1, rfl, k, rfl⟩
  have hlt : t < s.heap.objs.size := Heap.lt_size (N _ hm).1
  refine wpAny_pyIter_list ht (h _ (fun i h => h.IsListIter s.heap.objs.size t i ∧ h.IsList t vs.toArray) _ (F.push _) (fun p hp => ⟨Heap.get?_push_of_some _ (N p hp).1, (N p hp).2⟩) ?_ fun _ _ x => x.1)
  have W := (Walks.list (prog := prog) (w := w) hh s.heap.objs.size t (Nat.ne_of_lt hlt) vs.toArray)
  rw [List.size_toArray] at W
  refine ⟨⟨W.sub, W.frame, fun i s Q E hi hst hQ => W.item i s Q E hi hst fun v h' tk hP => hQ v h' tk (by simpa using hP), W.done, W.self⟩, ?_, ?_, ?_, ?_, ?_, ?_, ?_⟩
  · exact ⟨⟨_, Heap.get?_push_size _ rfl, rfl, rfl⟩, ht.at fun o e => Heap.get?_push_of_some _ e⟩
  · intro c hc
    rw [Heap.size_push]
    rcases List.mem_cons.mp hc with rfl | hc
    · exact Nat.lt_succ_self _
    · rw [List.mem_singleton.mp hc]; exact Nat.lt_succ_of_lt hlt
  · intro hl
    rcases List.mem_cons.mp hl with e | hl
    · exact absurd F.ns.lt (e ▸ Nat.lt_irrefl _)
    · exact (N _ hm).2.1 (List.mem_singleton.mp hl).symm
  · intro c hc
    rw [List.mem_singleton.mp hc]
    exact new_at F (Nat.le_refl _)
  · intro i h hi c hc
    rw [List.mem_singleton.mp hc]
    obtain ⟨o, e, _⟩ := hi.1
    exact ⟨o, e⟩
  · intro c hc hn
    rcases List.mem_cons.mp hc with rfl | hc
    · exact absurd (List.mem_singleton.mpr rfl) hn
    · rw [List.mem_singleton.mp hc]; exact .inr ⟨_, List.mem_singleton.mpr rfl⟩
  · intro p hp hI
    exact absurd (Heap.lt_size (N p hp).1) ((List.mem_singleton.mp hI) ▸ Nat.lt_irrefl _)

theorem asg_pair {L C : Addr} {a b : Str} {pa pb tp : Pos} {kk : Nat} {scope : Scope} {cl : List (Str × Addr)} {I t : Addr} {vs : List Value} {nb : Led} {St : Nat → Heap → Prop} (hh : A.handled = none) (hkind : scope.kind = .function) (ha : scope.names.lookup a = some .local) (hb : scope.names.lookup b = some .local)
    (hit : ∀ i h, St i h → h.IsListIter I t i) (hv : ∀ (i : Nat) v, vs[i]? = some v → ∃ D k x y, v = .ref D ∧ (D, tupO [x, y] k) ∈ nb) :
    Asg prog w A h₀ L (compEnvC scope cl C env) (.Tuple [.Name a pa, .Name b pb] kk tp) I vs nb St (fun v m => ∀ D n x y, v = .ref D → (D, tupO [x, y] n) ∈ nb → m b = some y) := by
  intro i v s' m' Q' E' hvi N hn hst hq
  obtain ⟨D, k, x, y, rfl, hm⟩ := hv i v hvi
  refine letGo_listiter (hit _ _ hst) ?_
  refine kcp_assign (x := x) (y := y) hh ⟨_, (N _ hm).1, rfl, k, rfl⟩ (lookup_relabel_local ha) (lookup_relabel_local hb) (by simp [compEnvC, relabel, hkind]) hn fun h' tk hn' hk => ?_
  refine hq h' tk _ hn' (fun D2 n x2 y2 e hm2 => ?_) hk
  have e1 : D2 = D := by injection e with e; exact e.symm
  subst e1
  have e2 := Option.some.inj ((N _ hm).1.symm.trans (N _ hm2).1)
  have e3 : [x, y].toArray = [x2, y2].toArray := by
    have := congrArg Obj.data e2
    simp only [tupO] at this
    injection this
  have e4 := congrArg Array.toList e3
  simp only [List.cons.injEq, and_true] at e4
  simp [e4.2]

theorem comp2_pairs {s₂ : Shared} {L : Addr} {m : Str → Option Value} {a b : Str} {pa pb tp : Pos} {kk : Nat} {scope : Scope} {cl : List (Str × Addr)} {i2 : Expr} {I t : Addr} {fp wr : List Addr} {vs : List Value} {rss : List Rws} {nb fix : Led} {St : Nat → Heap → Prop} {Q : Value → Shared → Prop} (hh : A.handled = none)
    (x : Iter prog w A h₀ L nb fix I fp wr vs.length (fun i v => vs[i]? = some v) St s₂.heap) (F : Fr h₀ L s₂.heap m) (N : News h₀ L s₂.heap nb) (hit : ∀ i h, St i h → h.IsListIter I t i) (hfx : ∀ p ∈ fix, p ∈ nb) (hp : Paired (EventIn nb) vs rss) (hlen : rss.flatten.length ≤ 90000)
    (hkind : scope.kind = .function) (ha : scope.names.lookup a = some .local) (hb : scope.names.lookup b = some .local)
    (turn : ∀ (led : Led) h tk mC E' C oC e rows, ExIn ((C, oC) :: led) 1 e rows → Fr h₀ L h m → News h₀ L h ((C, oC) :: led) → LCg.NsObj oC mC → mC b = some e →
      wpAny (model prog w) A (eval i2 (compEnvC scope cl C env)) (RowsTurn h₀ L m ((C, oC) :: led) rows { s₂ with heap := h, toks := tk }) E' { s₂ with heap := h, toks := tk })
    (done : ∀ D k ys tl h tk, RowsIn tl ys rss.flatten → AllLt D nb → Off D tl → Above nb tl → Fr h₀ L h m → News h₀ L h ((D, listOf ys.toArray k) :: (nb ++ tl)) → Q (.ref D) { s₂ with heap := h, toks := tk }) :
    Comp2At prog w A h₀ L env scope cl (.Tuple [.Name a pa, .Name b pb] kk tp) i2 Q (.ref I) s₂ := by
  refine ⟨I, fp, wr, vs, rss, St, m, nb, fix, _, EventIn nb, rfl, hh, x, F, N, hfx, hp, hlen, fun C => asg_pair hh hkind ha hb hit fun i v hv => ?_, ?_, done⟩
  · obtain ⟨_, _, a5, n5, k5, t5, e5, hr5, hm5, _⟩ := paired_get hp i v hv
    exact ⟨_, _, _, _, hr5, hm5⟩
  · intro i v rows tl own h tk mC E' C oC hv hrel _ F' N' hNs hG
    obtain ⟨a5, n5, k5, t5, e5, rfl, hm5, he5⟩ := hrel
    exact turn _ h tk mC E' C oC e5 rows (he5.mono fun p hp => .tail _ (List.mem_append_left _ hp)) F' N' hNs (hG _ _ _ _ rfl hm5)
end

theorem shrink0 {h₀ h : Heap} {L D j : Addr} {oD oj : Obj} {nb tl : Led} (N : News h₀ L h ((D, oD) :: (j, oj) :: (nb ++ tl))) : News h₀ L h ((D, oD) :: tl) := News.sub N fun p hp => by
  rcases List.mem_cons.mp hp with rfl | hp
  · exact .head _
  · exact .tail _ (.tail _ (List.mem_append_right _ hp))
theorem shrink1 {h₀ h : Heap} {L l D' x d l1 D : Addr} {o o1 o2 o3 o4 o5 : Obj} {tl2 tlt tl : Led} (N : News h₀ L h ((l, o) :: (D', o1) :: (x, o2) :: (d, o3) :: (l1, o4) :: (D, o5) :: (tl2 ++ (tlt ++ tl)))) : News h₀ L h ((l, o) :: (x, o2) :: (d, o3) :: (D, o5) :: (tl2 ++ tl)) := News.sub N fun p hp => by
  rcases List.mem_cons.mp hp with rfl | hp
  · exact .head _
  rcases List.mem_cons.mp hp with rfl | hp
  · exact .tail _ (.tail _ (.head _))
  rcases List.mem_cons.mp hp with rfl | hp
  · exact .tail _ (.tail _ (.tail _ (.head _)))
  rcases List.mem_cons.mp hp with rfl | hp
  · exact .tail _ (.tail _ (.tail _ (.tail _ (.tail _ (.head _)))))
  refine .tail _ (.tail _ (.tail _ (.tail _ (.tail _ (.tail _ ?_)))))
  rcases List.mem_append.mp hp with hp | hp
  · exact List.mem_append_left _ hp
  · exact List.mem_append_right _ (List.mem_append_right _ hp)
theorem lastCase {h₀ h : Heap} {L A0 A1 A2 A3 A4 A5 A6 A7 : Addr} {n0 n1 n2 n3 n4 n5 n6 n7 : Nat} {a b c d e f g k q : Tok} {i i1 i5 : Int} {led : Led}
    (_N : News h₀ L h ((A0, tupO [tx "case" a, .int i b, tx "casez" c, .ref A6, .ref A1] n0) :: (A1, tupO [.ref A5, .ref A3, .ref A2] n1) :: (A2, tupO [.none, .none] n2) :: (A3, tupO [.ref A4, .none] n3) :: (A4, tupO [.ref A7] n4) :: (A5, tupO [.none, .none] n5) :: (A6, tupO [tx "id" d, .int i1 e, tx "v" f] n6) :: (A7, tupO [tx "id" g, .int i5 k, tx "zz" q] n7) :: led)) :
    ∃ rows, CaseIn ((A0, tupO [tx "case" a, .int i b, tx "casez" c, .ref A6, .ref A1] n0) :: (A1, tupO [.ref A5, .ref A3, .ref A2] n1) :: (A2, tupO [.none, .none] n2) :: (A3, tupO [.ref A4, .none] n3) :: (A4, tupO [.ref A7] n4) :: (A5, tupO [.none, .none] n5) :: (A6, tupO [tx "id" d, .int i1 e, tx "v" f] n6) :: (A7, tupO [tx "id" g, .int i5 k, tx "zz" q] n7) :: led)
      (StIn ((A0, tupO [tx "case" a, .int i b, tx "casez" c, .ref A6, .ref A1] n0) :: (A1, tupO [.ref A5, .ref A3, .ref A2] n1) :: (A2, tupO [.none, .none] n2) :: (A3, tupO [.ref A4, .none] n3) :: (A4, tupO [.ref A7] n4) :: (A5, tupO [.none, .none] n5) :: (A6, tupO [tx "id" d, .int i1 e, tx "v" f] n6) :: (A7, tupO [tx "id" g, .int i5 k, tx "zz" q] n7) :: led) 2) (.ref A0) rows := by
  generalize hF : ((A0, tupO [tx "case" a, .int i b, tx "casez" c, .ref A6, .ref A1] n0) :: (A1, tupO [.ref A5, .ref A3, .ref A2] n1) :: (A2, tupO [.none, .none] n2) :: (A3, tupO [.ref A4, .none] n3) :: (A4, tupO [.ref A7] n4) :: (A5, tupO [.none, .none] n5) :: (A6, tupO [tx "id" d, .int i1 e, tx "v" f] n6) :: (A7, tupO [tx "id" g, .int i5 k, tx "zz" q] n7) :: led) = FL
  have m0 : (A0, tupO [tx "case" a, .int i b, tx "casez" c, .ref A6, .ref A1] n0) ∈ FL := hF ▸ .head _
  have m1 : (A1, tupO [.ref A5, .ref A3, .ref A2] n1) ∈ FL := hF ▸ .tail _ (.head _)
  have m2 : (A2, tupO [.none, .none] n2) ∈ FL := hF ▸ .tail _ (.tail _ (.head _))
  have m3 : (A3, tupO [.ref A4, .none] n3) ∈ FL := hF ▸ .tail _ (.tail _ (.tail _ (.head _)))
  have m4 : (A4, tupO [.ref A7] n4) ∈ FL := hF ▸ .tail _ (.tail _ (.tail _ (.tail _ (.head _))))
  have m5 : (A5, tupO [.none, .none] n5) ∈ FL := hF ▸ .tail _ (.tail _ (.tail _ (.tail _ (.tail _ (.head _)))))
  have m6 : (A6, tupO [tx "id" d, .int i1 e, tx "v" f] n6) ∈ FL := hF ▸ .tail _ (.tail _ (.tail _ (.tail _ (.tail _ (.tail _ (.head _))))))
  have m7 : (A7, tupO [tx "id" g, .int i5 k, tx "zz" q] n7) ∈ FL := hF ▸ .tail _ (.tail _ (.tail _ (.tail _ (.tail _ (.tail _ (.tail _ (.head _)))))))
  have e6 : ExIn FL 1 (.ref A6) (idRows i1 (Str.ofString "v")) := Or.inl (Or.inl ⟨A6, n6, d, i1, e, _, f, rfl, m6, .inl rfl, rfl⟩)
  have e7 : ExIn FL 1 (.ref A7) (idRows i5 (Str.ofString "zz")) := Or.inl (Or.inl ⟨A7, n7, g, i5, k, _, q, rfl, m7, .inr (.inr (.inr (.inr (.inr rfl)))), rfl⟩)
  have st : StIn FL 2 .none (fun _ => []) := Or.inr (Or.inl ⟨rfl, rfl⟩)
  have b5 : BranchIn FL (StIn FL 2) (.ref A5) (true, fun _ => []) := ⟨A5, n5, .none, .none, _, rfl, m5, st, .inl ⟨rfl, rfl⟩⟩
  have b2 : BranchIn FL (StIn FL 2) (.ref A2) (true, fun _ => []) := ⟨A2, n2, .none, .none, _, rfl, m2, st, .inl ⟨rfl, rfl⟩⟩
  have b3 : BranchIn FL (StIn FL 2) (.ref A3) (false, fun w => [idRows i5 (Str.ofString "zz")].flatten ++ (fun _ => []) w) := ⟨A3, n3, .ref A4, .none, _, rfl, m3, st, .inr ⟨A4, n4, [.ref A7], [_], rfl, m4, Nat.le_of_ble_eq_true rfl, .cons e7 .nil, rfl⟩⟩
  exact ⟨_, A0, n0, a, i, b, _, _, _, A1, n1, _, _, rfl, m0, e6, m1, Nat.le_of_ble_eq_true rfl, .cons b5 (.cons b3 (.cons b2 .nil)), rfl⟩
theorem len_led {prog : Program} {w : World} {A : Around} {E : Value → Shared → Prop} {s : Shared} {h₀ : Heap} {L l : Addr} {news : Led} {vs : List Value} {n c : Nat} {Q : Value → Shared → Prop}
    (N : News h₀ L s.heap news) (hm : (l, listOf vs.toArray n) ∈ news) (hl : vs.length = c) (hc : c ≤ 1000) (h : Q (.int (c : Nat) (s.toks + 1)) { s with toks := s.toks + 1 + 1 }) :
    wpAny (model prog w) A (call (.builtin "len") [.ref l]) Q E s := by
  have e : vs.toArray.size = c := by rw [List.size_toArray, hl]
  refine PyProof.Rows.len_list (News.isList (n := n) N hm) (by rw [e]; omega) ?_
  rw [e]; exact h

set_option maxHeartbeats 8000000 in
theorem chkStarP {w : World} {r b : Addr} {rest : Led} {tv : Value} {t : Tok} {nb : Nat} (hm : (b, tupO [tx "star" t] nb) ∈ rest) : PDoes w 219 1 [.ref r, tv, .ref b] rest (fun res tl => res = .none ∧ tl = []) := by
  intro dp un gd env outer A₀ base h₀ L m mean mg mb s Q E HA hd hu hret
  obtain ⟨B, F, X, N, T, fr, kd⟩ := HA
  refine wpAny_call ?_
  k_dflt ktr_enter
  (repeat' (first | ((with_reducible show wpAny _ _ _ _ _ (Shared.mk _ _ _ (_ + 1 + 1) _)); (refine forgetT ?_); (intro tk9); (try dsimp only)) | ((with_reducible show wpAny _ _ (PySem.exec _ _) _ _ _); ((fail_if_success (refine' hidden_test ?hQ ?_; (case hQ => with_reducible assumption))); (refine' hideQ ?_); (intro Q9 hQ9))) | (k_unfold; (try dsimp only)) | (k_end; wrow_close) | with_reducible (k_here; (with_reducible show wpAny _ _ (compareOp CmpOp.Eq (Value.ref _) (Value.str _ _)) _ _ _); k_dflt (refine' eq_tup_str ?k1 ?k2 ?k3 ?_; (case k1 => k_asm); (case k2 => k_mem); (case k3 => (try dsimp only [Around.deeper]); omega))) | with_reducible (k_here; (with_reducible show wpAny _ _ (compareOp CmpOp.Eq (Value.ref _) (Value.str _ _)) _ _ _); k_dflt (refine' eq_tup_str ?k1 ?k2 ?k3 ?_; (case k1 => k_asm); (case k2 => k_mem); (case k3 => (try dsimp only [Around.deeper]); omega))) | with_reducible (k_here; (with_reducible show wpAny _ _ (subscriptTail _ _ (Value.ref _) (Value.int 0 _)) _ _ _); k_dflt (refine' item_head ?k1 ?k2 ?_ ?k3 ?k4; (case k1 => k_asm); (case k2 => k_mem); (case k3 => with_unfolding_all rfl); (case k4 => (intro _; with_unfolding_all rfl)))) | walk1 | ((refine' Hid.use ?hQ ?_); (case hQ => with_reducible assumption); (try dsimp only)) | dsimp only | (leave1; (try dsimp only)) | fail "no step"))
  refine' PDoes.fin hret ?F ?N [] ?S (fun _ _ _ h => nomatch h) ⟨rfl, rfl⟩
  case F => assumption
  case N => assumption
  case S => (rw [List.append_nil]; exact fun _ h => h)
end
section
open PySem PySem.W PySem.Calls PyProof.Rows PySem.Spec
theorem frag_on32 : (hdS.heap_1 = hdS.heap_1 ∧ PySem.Challenge.rw_on0122_01 = PySem.Challenge.rw_on0122_01) := by
  k_fill
  exact ⟨rfl, rfl⟩
local macro_rules | `(tactic| k_mem) => `(tactic| focus ((repeat' (first | ktr_member | refine List.mem_cons_of_mem _ ?_)); done))


theorem menu3 {prog : Program} {w : World} {A : Around} {E : Value → Shared → Prop} {s : Shared} {h₀ : Heap} {L l : Addr} {news : Led} {value slice : Expr} {a b c : Str} {ta tb tc : Tok} {n : Nat} {k : Int} {u : Tok} {Q : Value → Shared → Prop}
    (N : News h₀ L s.heap news) (hm : (l, listOf #[Value.str a ta, Value.str b tb, Value.str c tc] n) ∈ news) (h0 : 0 ≤ k) (h1 : k < 3) (h : ∀ x t, Q (.str x t) s)
    (hs : subscripted slice false (.ref l) (.int k u) = operate [.ref l, .int k u] (getItem (.ref l) (.int k u))) : wpAny (model prog w) A (subscriptTail value slice (.ref l) (.int k u)) Q E s := by
  have hl : s.heap.IsList l #[Value.str a ta, Value.str b tb, Value.str c tc] := News.isList N hm
  have h3 : k = 0 ∨ k = 1 ∨ k = 2 := by omega
  rcases h3 with rfl | rfl | rfl
  · exact item_listR hl (by decide) (by decide) rfl (h _ _) hs
  · exact item_listR hl (by decide) (by decide) rfl (h _ _) hs
  · exact item_listR hl (by decide) (by decide) rfl (h _ _) hs

theorem jar_mk {h₀ h : Heap} {L j c : Addr} {ta tb td : Tok} {n k : Nat} {ws : List Value} {ns : List Int} {led : Led} (_N : News h₀ L h ((j, listOf #[Value.int 0 ta, Value.int 0 tb, Value.ref c, Value.int 100 td] n) :: (c, listOf ws.toArray k) :: led)) (hi : IntsAre ws (List.take (Int.toNat 40) (ns ++ [0]))) :
    Jar 100000 [(c, listOf ws.toArray k)] (listOf #[Value.int 0 ta, Value.int 0 tb, Value.ref c, Value.int 100 td] n) := by
  refine ⟨⟨c, 0, 0, 100, ta, tb, td, n, ws, _, k, rfl, .head _, hi, ?_, ?_, by decide, by decide⟩⟩
  · rw [List.length_take, List.length_append]
    have : Int.toNat 40 = 40 := rfl
    simp only [List.length_cons, List.length_nil]
    omega
  · rw [List.length_take]
    have : Int.toNat 40 = 40 := rfl
    omega

theorem off_consN {a D : Addr} {o : Obj} {tl : Led} (h : @LT.lt Nat _ a D) (k : Off a tl) : Off a ((D, o) :: tl) := fun p hp => by
  rcases List.mem_cons.mp hp with rfl | hp
  · exact Nat.ne_of_gt h
  · exact k p hp
theorem off_all {l : Addr} {o : Obj} {led tl : Led} (hab : Above ((l, o) :: led) tl) (h : AllLt l led) : Off l (led ++ tl) := fun p hp =>
  (List.mem_append.mp hp).elim (fun h1 => Nat.ne_of_lt (ktn_ltOf h p h1)) fun h1 => Nat.ne_of_gt (hab _ (.head _) p h1)
theorem repAt_of2 {h₀ h : Heap} {L l r dx D : Addr} {o oD : Obj} {h1 h2 h3 : Int} {t1 t2 t3 : Tok} {v1 v2 : Value} {n : Nat} {led : Led} (_N : News h₀ L h ((D, oD) :: (l, o) :: (r, instObj 38 dx) :: (dx, dictOf [⟨h1, tx "names" t1, v1⟩, ⟨h2, tx "nettype" t2, v2⟩, ⟨h3, tx "rows" t3, .ref l⟩] n) :: led)) :
    RepAt r l ((r, instObj 38 dx) :: (dx, dictOf [⟨h1, tx "names" t1, v1⟩, ⟨h2, tx "nettype" t2, v2⟩, ⟨h3, tx "rows" t3, .ref l⟩] n) :: led) := ⟨dx, h1, t1, v1, h2, t2, v2, h3, t3, n, .head _, .tail _ (.head _)⟩
theorem evUp {led led' : Led} {vs : List Value} {rss : List Rws} (h : Paired (EventIn led) vs rss) (hs : ∀ p ∈ led, p ∈ led') : Paired (EventIn led') vs rss := PPaired.mono (fun _ _ h => h.mono hs) h
theorem eltT {β : Type} {Rel : Led → Value → β → Prop} {h₀ h' : Heap} {L D : Addr} {oD : Obj} {m : Str → Option Value} {j : Addr} {nb own tl2 led : Led} {R : Led} {g g' : Nat} {s₁ : Shared} {tk' : Nat} {o'' : Obj} {b : β}
    (F : Fr h₀ L h' m) (N : News h₀ L h' ((D, oD) :: (j, o'') :: led)) (l9 : AllLt D ((j, o'') :: led)) (J : Jar g' R o'') (hg : g ≤ g') (hR : Rel ((D, oD) :: tl2) (.ref D) b) (hs : ∀ p ∈ nb ++ own ++ tl2, p ∈ led) (hf : Fresh j (nb ++ own) tl2) : EltEnd Rel h₀ L m j nb own R g s₁ (.ref D) { s₁ with heap := h', toks := tk' } :=
  EltEnd.intro F N J hg hR (fun p hp => by
    rcases List.mem_cons.mp hp with rfl | hp
    · exact .tail _ (.head _)
    · rcases List.mem_append.mp hp with hp | hp
      · exact .tail _ (.tail _ (hs p (List.mem_append.mpr (.inl hp))))
      · rcases List.mem_cons.mp hp with rfl | hp
        · exact .head _
        · exact .tail _ (.tail _ (hs p (List.mem_append.mpr (.inr hp))))) (Fresh.cons l9.1 (allLt_sub l9.2 fun p hp => hs p (List.mem_append.mpr (.inl hp))) hf)
theorem eventIn_mk {led : Led} {D : Addr} {k : Str} {t : Tok} {e : Value} {n : Nat} {rows : Rws} (h : ExIn led 1 e rows) : EventIn ((D, tupO [.str k t, e] n) :: led) (.ref D) rows := ⟨_, _, _, _, _, rfl, .head _, h.mono fun _ h => .tail _ h⟩
theorem eventsLen {led : Led} {vs : List Value} {rss : List Rws} (h : Paired (EventIn led) vs rss) (hv : vs.length ≤ 3) : rss.flatten.length ≤ 6 := by
  have h1 := flat_len (rss := rss) (k := 2) fun r hr => by
    obtain ⟨a, _, _, _, _, e, _, _, ha⟩ := paired_mem h r hr
    exact exLen1 ha
  have h2 := Paired.length h
  have h3 : rss.length * 2 ≤ 3 * 2 := Nat.mul_le_mul_right _ (by omega)
  omega
theorem eventsLay {led : Led} {vs : List Value} {rss : List Rws} (h : Paired (EventIn led) vs rss) : LayRows rss.flatten := lay_flat fun r hr => by
    obtain ⟨a, _, _, _, _, e, _, _, ha⟩ := paired_mem h r hr
    exact exLay ha
theorem ne_nil {α : Type} {l : List α} {n : Nat} (h : l.length = n) (h1 : 0 < n) : l ≠ [] := by
  rintro rfl
  rw [List.length_nil] at h
  omega

local macro_rules | `(tactic| k_in) => `(tactic| first | with_reducible assumption | exact Frag.In.keeps (by k_asm) (Fr.keep (by k_asm)))
local macro_rules | `(tactic| k_qdec) => `(tactic| decide +kernel)
set_option maxHeartbeats 8000000 in
theorem postT (ns : List Int) : PySem.Challenge.rw_on0122_01.row.claim.post [ofPy (PyData.list (List.map PyData.int ns))] (WData.bool true) [ofPy (PyData.list (List.map PyData.int ns))] = true := by
  wrow_post
set_option maxHeartbeats 8000000 in
theorem lawHolds : PySem.Challenge.rw_on0122_01.Holds := hd (by
  delta hdS
  k_go0
  all_goals try k_fold
  repeat' (first | (fail_if_success (with_reducible show wpAny _ _ (call (Value.ref 278) _ _) _ _ _)); first | ((with_reducible show wpAny _ _ _ _ _ (Shared.mk _ _ _ (_ + 1 + 1) _)); (refine forgetT ?_); (intro tk9); (try dsimp only)) | ((with_reducible show wpAny _ _ (PySem.exec _ _) _ _ _); ((fail_if_success (refine' hidden_test ?hQ ?_; (case hQ => with_reducible assumption))); (refine' hideQ ?_); (intro Q9 hQ9))) | (k_unfold; (try dsimp only)) | (k_end; w_end; exact absurd (rfl : (_ : Int) = _) (by with_reducible assumption)) | (k_end; w_end; (show GoodW _ _ _ _ _ (.ok (.ret (.bool _))) _); refine goodW_bool (by assumption) (by assumption) (raisesW_false ?_) ?_; (· wrow_none_raised); (· exact postT _)) | (k_end; wrow_close) | ((with_reducible show wpAny _ _ (call _ _ _) _ _ _); (first | with_reducible (k_here; (with_reducible show wpAny _ _ (call (Value.builtin "len") [Value.ref _]) _ _ _); k_dflt (refine' len_led ?lN ?lm ?ll ?lc ?_; (case lN => k_asm); (case lm => k_mem); (case ll => exact Paired.length (by assumption)); (case lc => omega))) | with_reducible (k_here; (with_reducible show wpAny _ _ (call (Value.ref 219) [Value.ref _, _, Value.ref _] _) _ _ _); k_dflt (refine' PDoes.use ?k1 ?k2 ?k3 ?k4 ?k5 ?k6 ?k7 (chkStarP ?h0) ?kd ?ku ?_; (case k1 => k_asm); (case k2 => k_asm); (case k3 => k_asm); (case k4 => k_asm); (case k5 => k_asm); (case k6 => first | exact rfl | assumption); (case k7 => first | exact rfl | assumption); (case h0 => k_mem); (case kd => decide); (case ku => decide)); (intro r' tl' h' tk' F' N' hab' hP'); (obtain ⟨e1', e2'⟩ := hP'); (subst e1'); (subst e2'); (try simp only [List.nil_append, List.cons_append, List.append_nil, List.append_assoc] at N'); (try k_sweep); (try dsimp only); (try k_fold)) | with_reducible (k_here; (with_reducible show wpAny _ _ (call (Value.ref 283) [_] _) _ _ _); k_dflt (refine' LDoes.use ?k1 ?k2 ?k3 ?k4 ?k5 ?k6 ?k7 (ExRowsC.use exRows1 ?h0) ?kd ?ku ?_; (case k1 => k_asm); (case k2 => k_asm); (case k3 => k_asm); (case k4 => k_asm); (case k5 => k_asm); (case k6 => first | exact rfl | assumption); (case k7 => first | exact rfl | assumption); (case h0 => first | assumption | exact ExIn.up (by assumption) (by tb_start)); (case kd => first | decide | ((try dsimp only [Around.deeper]); omega)); (case ku => first | decide | ((try dsimp only [Around.deeper]); omega))); (intro a' vs' n' tl' h' tk' F' N' hl' ho1' ho2' hab' hr'); (have hlen' := Paired.length hr'); (try simp only [List.nil_append, List.cons_append, List.append_nil, List.append_assoc] at N'); (try k_sweep); (try dsimp only); (try k_fold)) | with_reducible (k_here; (with_reducible show wpAny _ _ (call (Value.ref 304) _ _) _ _ _); k_dflt (refine' PDoes.useA ?k1 ?k2 ?k3 ?k4 ?k5 ?k6 ?k7 tables0 ?kd ?ku ?_; (case k1 => k_asm); (case k2 => k_asm); (case k3 => k_asm); (case k4 => k_asm); (case k5 => k_asm); (case k6 => first | exact rfl | assumption); (case k7 => first | exact rfl | assumption); (case kd => first | decide | ((try dsimp only [Around.deeper]); omega)); (case ku => first | decide | ((try dsimp only [Around.deeper]); omega))); (intro tv' tlt' h' tk' F' N' habt' hT'); (try simp only [List.nil_append, List.cons_append, List.append_nil, List.append_assoc] at N'); (try k_sweep); (try dsimp only); (try k_fold)) | with_reducible (k_here; (with_reducible show wpAny _ _ (call (Value.type _) [Value.ref _]) _ _ _); k_dflt (refine' tuple_led ?k1 ?k2 ?k3 ?k4 ?_; (case k1 => k_asm); (case k2 => k_asm); (case k3 => k_mem); (case k4 => omega)); intro D' h' F' N' l1; (try k_lt l1); (try k_sweep)) | with_reducible (k_here; (with_reducible show wpAny _ _ (call (Value.ref 266) [Value.ref _, Value.int _ _] _) _ _ _); k_dflt (refine' MDoes.use ?k1 ?k2 ?k3 ?k4 ?k5 ?k6 ?k7 ?kP (expr1 ?h0 ?h1) ?kJ ?kO ?kd ?ku ?_; (case k1 => k_asm); (case k2 => k_asm); (case k3 => k_asm); (case k4 => k_asm); (case k5 => k_asm); (case k6 => first | exact rfl | assumption); (case k7 => first | exact rfl | assumption); (case kP => repeat (first | exact Pick.head | apply Pick.tail)); (case kJ => assumption); (case h0 => tb_start); (case h1 => omega); (case kO => k_all); (case kd => first | decide | ((try dsimp only [Around.deeper]); omega)); (case ku => first | decide | ((try dsimp only [Around.deeper]); omega))); (intro r' o' tl' h' tk' F' N' hf' ho' hP'); (obtain ⟨J', rws', hE'⟩ := hP'); (try simp only [List.nil_append, List.cons_append, List.append_nil, List.append_assoc] at N'); (try k_sweep); (try dsimp only); (try k_fold)) | with_reducible (k_here; (with_reducible show wpAny _ _ (call (Value.ref 311) [_, Value.bool _] _) _ _ _); k_dflt (refine' PDoes.useA ?k1 ?k2 ?k3 ?k4 ?k5 ?k6 ?k7 (checked0 ?h0) ?kd ?ku ?_; (case k1 => k_asm); (case k2 => k_asm); (case k3 => k_asm); (case k4 => k_asm); (case k5 => k_asm); (case k6 => first | exact rfl | assumption); (case k7 => first | exact rfl | assumption); (case h0 => first | assumption | exact CaseIn.up (by assumption) (by tb_start)); (case kd => (try dsimp only [Around.deeper]); first | decide | omega); (case ku => (try dsimp only [Around.deeper]); first | decide | omega)); (intro r' tlc' h' tk' F' N' habc' hP'); (subst hP'); (try simp only [List.nil_append, List.cons_append, List.append_nil, List.append_assoc] at N'); (try k_sweep); (try dsimp only); (try k_fold)) | with_reducible (k_here; (with_reducible show wpAny _ _ (call (Value.ref 247) [Value.ref _, Value.int _ _] _) _ _ _); k_dflt (refine' MDoes.use ?k1 ?k2 ?k3 ?k4 ?k5 ?k6 ?k7 ?kP (draw ?h0 ?h1 ?h2 ?h3) ?kJ ?kO ?kd ?ku ?_; (case k1 => k_asm); (case k2 => k_asm); (case k3 => k_asm); (case k4 => k_asm); (case k5 => k_asm); (case k6 => first | exact rfl | assumption); (case k7 => first | exact rfl | assumption); (case kP => repeat (first | exact Pick.head | apply Pick.tail)); (case kJ => assumption); (case h0 => tb_start); (case h1 => omega); (case h2 => omega); (case h3 => omega); (case kO => k_all); (case kd => first | decide | ((try dsimp only [Around.deeper]); omega)); (case ku => first | decide | ((try dsimp only [Around.deeper]); omega))); (intro r' o' tl' h' tk' F' N' hf' ho' hP'); (obtain ⟨e1', J', i', t', e2', hlo', hhi'⟩ := hP'); (subst e1'); (subst e2'); (try simp only [List.nil_append, List.cons_append, List.append_nil, List.append_assoc] at N'); (try k_sweep); (try dsimp only); (try k_fold)))) | with_reducible (k_here; (with_reducible show wpAny _ _ (compareOp CmpOp.NotEq (Value.ref _) (Value.ref _)) _ _ _); k_dflt (refine' ne_rows ?zN ?za ?zb ?zr ?zs ?zl ?zu ?_; (case zN => k_asm); (case za => k_mem); (case zb => k_mem); (case zr => exact rowsUp (by assumption) (by tb_start)); (case zs => exact rowsUp (by assumption) (by tb_start)); (case zl => assumption); (case zu => exact Nat.le_of_ble_eq_true rfl))) | ((with_reducible show wpAny _ _ (PySem.eval (PySem.Expr.ListComp _ _ _ _) _) _ _ _); (k_here; refine' comp2_led ?kh ?c1 ?c2 ?c3 ?c4 ?c5 ?cn ?_ ?c6 ?c7; (case kh => k_asm); (case c1 => with_unfolding_all rfl); (case c2 => decide); (case c3 => with_unfolding_all rfl); (case c4 => decide); (case c5 => with_unfolding_all rfl); (case cn => decide); (case c6 => intro _; with_unfolding_all rfl); (case c7 => intro _ _; with_unfolding_all rfl))) | with_reducible ((with_reducible show wpAny _ _ (PySem.exec (PySem.Stmt.Assign _ (PySem.Expr.ListComp _ _ _ _) _) _) _ _ _); (k_here; k_dflt (refine' assign_led ?kF9 ?kL9 ?sw9 ?cl9 ?ce9 ?ki9 ?nm9 ?hx9 ?hy9 ?hp9 ?_ ?fs9; (case kF9 => k_asm); (case kL9 => exact rfl); (case sw9 => with_unfolding_all rfl); (case cl9 => with_unfolding_all rfl); (case ce9 => decide); (case ki9 => with_unfolding_all rfl); (case nm9 => decide); (case hx9 => with_unfolding_all rfl); (case hy9 => with_unfolding_all rfl); (case hp9 => with_unfolding_all rfl); (case fs9 => intro _; with_unfolding_all rfl)))) | with_reducible (k_here; (with_reducible show wpAny _ _ (subscriptTail (PySem.Expr.List _ _) _ (Value.ref _) (Value.int _ _)) _ _ _); k_dflt (refine' menu3 ?mN ?mm ?m0 ?m1 ?_ ?ms; (case mN => k_asm); (case mm => k_mem); (case m0 => omega); (case m1 => omega); (case ms => with_unfolding_all rfl)); intro xk' tx') | with_reducible (k_here; (with_reducible show wpAny _ _ (subscriptTail _ (PySem.Expr.Slice _ _ none _) (Value.ref _) (Value.ref _)) _ _ _); k_dflt (refine' slice_tmp ?slF ?slN ?sll ?slp ?slq ?sli ?slm ?_ ?sls ?slz; (case slF => k_asm); (case slN => k_asm); (case sll => kmk_list); (case slp => kmk_part); (case slq => kmk_part); (case sli => l_ints); (case slm => decide); (case sls => with_unfolding_all rfl); (case slz => kmk_size)); intro D' ws' h' F' N' l1 hI'; (try k_lt l1); (try k_sweep)) | walk1 | ((refine' Hid.use ?hQ ?_); (case hQ => with_reducible assumption); (try dsimp only)) | dsimp only | (leave1; try dsimp only at *) | fail "no step")
  with_reducible rename News _ _ _ _ => N9
  with_reducible rename IntsAre _ (List.take _ _) => hI9
  have hJ9 := jar_mk N9 hI9
  k_here
  (with_reducible show wpAny _ _ (call (Value.ref 278) [Value.ref _, Value.int _ _] _) _ _ _)
  k_dflt (refine' MDoes.use ?k1 ?k2 ?k3 ?k4 ?k5 ?k6 ?k7 ?kP (CaseC.use case2 ?h0 ?h1) ?kJ ?kO ?kd ?ku ?_; (case k1 => k_asm); (case k2 => k_asm); (case k3 => k_asm); (case k4 => k_asm); (case k5 => k_asm); (case k6 => first | exact rfl | assumption); (case k7 => first | exact rfl | assumption); (case kP => repeat (first | exact Pick.head | apply Pick.tail)); (case kJ => assumption); (case h0 => tb_start); (case h1 => omega); (case kO => k_all); (case kd => first | decide | ((try dsimp only [Around.deeper]); omega)); (case ku => first | decide | ((try dsimp only [Around.deeper]); omega)))
  (intro r' o' tl' h' tk' F' N' hf' ho' hP')
  (obtain ⟨J', rws', hE'⟩ := hP')
  (try simp only [List.nil_append, List.cons_append, List.append_nil, List.append_assoc] at N')
  (try k_sweep)
  (try dsimp only)
  (try k_fold)
  (repeat' (first | ((with_reducible show wpAny _ _ _ _ _ (Shared.mk _ _ _ (_ + 1 + 1) _)); (refine forgetT ?_); (intro tk9); (try dsimp only)) | ((with_reducible show wpAny _ _ (PySem.exec _ _) _ _ _); ((fail_if_success (refine' hidden_test ?hQ ?_; (case hQ => with_reducible assumption))); (refine' hideQ ?_); (intro Q9 hQ9))) | (k_unfold; (try dsimp only)) | (k_end; w_end; exact absurd (rfl : (_ : Int) = _) (by with_reducible assumption)) | (k_end; w_end; (show GoodW _ _ _ _ _ (.ok (.ret (.bool _))) _); refine goodW_bool (by assumption) (by assumption) (raisesW_false ?_) ?_; (· wrow_none_raised); (· exact postT _)) | (k_end; wrow_close) | ((with_reducible show wpAny _ _ (call _ _ _) _ _ _); (first | with_reducible (k_here; (with_reducible show wpAny _ _ (call (Value.builtin "len") [Value.ref _]) _ _ _); k_dflt (refine' len_led ?lN ?lm ?ll ?lc ?_; (case lN => k_asm); (case lm => k_mem); (case ll => exact Paired.length (by assumption)); (case lc => omega))) | with_reducible (k_here; (with_reducible show wpAny _ _ (call (Value.ref 219) [Value.ref _, _, Value.ref _] _) _ _ _); k_dflt (refine' PDoes.use ?k1 ?k2 ?k3 ?k4 ?k5 ?k6 ?k7 (chkStarP ?h0) ?kd ?ku ?_; (case k1 => k_asm); (case k2 => k_asm); (case k3 => k_asm); (case k4 => k_asm); (case k5 => k_asm); (case k6 => first | exact rfl | assumption); (case k7 => first | exact rfl | assumption); (case h0 => k_mem); (case kd => decide); (case ku => decide)); (intro r' tl' h' tk' F' N' hab' hP'); (obtain ⟨e1', e2'⟩ := hP'); (subst e1'); (subst e2'); (try simp only [List.nil_append, List.cons_append, List.append_nil, List.append_assoc] at N'); (try k_sweep); (try dsimp only); (try k_fold)) | with_reducible (k_here; (with_reducible show wpAny _ _ (call (Value.ref 283) [_] _) _ _ _); k_dflt (refine' LDoes.use ?k1 ?k2 ?k3 ?k4 ?k5 ?k6 ?k7 (ExRowsC.use exRows1 ?h0) ?kd ?ku ?_; (case k1 => k_asm); (case k2 => k_asm); (case k3 => k_asm); (case k4 => k_asm); (case k5 => k_asm); (case k6 => first | exact rfl | assumption); (case k7 => first | exact rfl | assumption); (case h0 => first | assumption | exact ExIn.up (by assumption) (by tb_start)); (case kd => first | decide | ((try dsimp only [Around.deeper]); omega)); (case ku => first | decide | ((try dsimp only [Around.deeper]); omega))); (intro a' vs' n' tl' h' tk' F' N' hl' ho1' ho2' hab' hr'); (have hlen' := Paired.length hr'); (try simp only [List.nil_append, List.cons_append, List.append_nil, List.append_assoc] at N'); (try k_sweep); (try dsimp only); (try k_fold)) | with_reducible (k_here; (with_reducible show wpAny _ _ (call (Value.ref 304) _ _) _ _ _); k_dflt (refine' PDoes.useA ?k1 ?k2 ?k3 ?k4 ?k5 ?k6 ?k7 tables0 ?kd ?ku ?_; (case k1 => k_asm); (case k2 => k_asm); (case k3 => k_asm); (case k4 => k_asm); (case k5 => k_asm); (case k6 => first | exact rfl | assumption); (case k7 => first | exact rfl | assumption); (case kd => first | decide | ((try dsimp only [Around.deeper]); omega)); (case ku => first | decide | ((try dsimp only [Around.deeper]); omega))); (intro tv' tlt' h' tk' F' N' habt' hT'); (try simp only [List.nil_append, List.cons_append, List.append_nil, List.append_assoc] at N'); (try k_sweep); (try dsimp only); (try k_fold)) | with_reducible (k_here; (with_reducible show wpAny _ _ (call (Value.type _) [Value.ref _]) _ _ _); k_dflt (refine' tuple_led ?k1 ?k2 ?k3 ?k4 ?_; (case k1 => k_asm); (case k2 => k_asm); (case k3 => k_mem); (case k4 => omega)); intro D' h' F' N' l1; (try k_lt l1); (try k_sweep)) | with_reducible (k_here; (with_reducible show wpAny _ _ (call (Value.ref 266) [Value.ref _, Value.int _ _] _) _ _ _); k_dflt (refine' MDoes.use ?k1 ?k2 ?k3 ?k4 ?k5 ?k6 ?k7 ?kP (expr1 ?h0 ?h1) ?kJ ?kO ?kd ?ku ?_; (case k1 => k_asm); (case k2 => k_asm); (case k3 => k_asm); (case k4 => k_asm); (case k5 => k_asm); (case k6 => first | exact rfl | assumption); (case k7 => first | exact rfl | assumption); (case kP => repeat (first | exact Pick.head | apply Pick.tail)); (case kJ => assumption); (case h0 => tb_start); (case h1 => omega); (case kO => k_all); (case kd => first | decide | ((try dsimp only [Around.deeper]); omega)); (case ku => first | decide | ((try dsimp only [Around.deeper]); omega))); (intro r' o' tl' h' tk' F' N' hf' ho' hP'); (obtain ⟨J', rws', hE'⟩ := hP'); (try simp only [List.nil_append, List.cons_append, List.append_nil, List.append_assoc] at N'); (try k_sweep); (try dsimp only); (try k_fold)) | with_reducible (k_here; (with_reducible show wpAny _ _ (call (Value.ref 311) [_, Value.bool _] _) _ _ _); k_dflt (refine' PDoes.useA ?k1 ?k2 ?k3 ?k4 ?k5 ?k6 ?k7 (checked0 ?h0) ?kd ?ku ?_; (case k1 => k_asm); (case k2 => k_asm); (case k3 => k_asm); (case k4 => k_asm); (case k5 => k_asm); (case k6 => first | exact rfl | assumption); (case k7 => first | exact rfl | assumption); (case h0 => first | assumption | exact CaseIn.up (by assumption) (by tb_start)); (case kd => (try dsimp only [Around.deeper]); first | decide | omega); (case ku => (try dsimp only [Around.deeper]); first | decide | omega)); (intro r' tlc' h' tk' F' N' habc' hP'); (subst hP'); (try simp only [List.nil_append, List.cons_append, List.append_nil, List.append_assoc] at N'); (try k_sweep); (try dsimp only); (try k_fold)) | with_reducible (k_here; (with_reducible show wpAny _ _ (call (Value.ref 247) [Value.ref _, Value.int _ _] _) _ _ _); k_dflt (refine' MDoes.use ?k1 ?k2 ?k3 ?k4 ?k5 ?k6 ?k7 ?kP (draw ?h0 ?h1 ?h2 ?h3) ?kJ ?kO ?kd ?ku ?_; (case k1 => k_asm); (case k2 => k_asm); (case k3 => k_asm); (case k4 => k_asm); (case k5 => k_asm); (case k6 => first | exact rfl | assumption); (case k7 => first | exact rfl | assumption); (case kP => repeat (first | exact Pick.head | apply Pick.tail)); (case kJ => assumption); (case h0 => tb_start); (case h1 => omega); (case h2 => omega); (case h3 => omega); (case kO => k_all); (case kd => first | decide | ((try dsimp only [Around.deeper]); omega)); (case ku => first | decide | ((try dsimp only [Around.deeper]); omega))); (intro r' o' tl' h' tk' F' N' hf' ho' hP'); (obtain ⟨e1', J', i', t', e2', hlo', hhi'⟩ := hP'); (subst e1'); (subst e2'); (try simp only [List.nil_append, List.cons_append, List.append_nil, List.append_assoc] at N'); (try k_sweep); (try dsimp only); (try k_fold)))) | with_reducible (k_here; (with_reducible show wpAny _ _ (compareOp CmpOp.NotEq (Value.ref _) (Value.ref _)) _ _ _); k_dflt (refine' ne_rows ?zN ?za ?zb ?zr ?zs ?zl ?zu ?_; (case zN => k_asm); (case za => k_mem); (case zb => k_mem); (case zr => exact rowsUp (by assumption) (by tb_start)); (case zs => exact rowsUp (by assumption) (by tb_start)); (case zl => assumption); (case zu => exact Nat.le_of_ble_eq_true rfl))) | ((with_reducible show wpAny _ _ (PySem.eval (PySem.Expr.ListComp _ _ _ _) _) _ _ _); (k_here; refine' comp2_led ?kh ?c1 ?c2 ?c3 ?c4 ?c5 ?cn ?_ ?c6 ?c7; (case kh => k_asm); (case c1 => with_unfolding_all rfl); (case c2 => decide); (case c3 => with_unfolding_all rfl); (case c4 => decide); (case c5 => with_unfolding_all rfl); (case cn => decide); (case c6 => intro _; with_unfolding_all rfl); (case c7 => intro _ _; with_unfolding_all rfl))) | with_reducible ((with_reducible show wpAny _ _ (PySem.exec (PySem.Stmt.Assign _ (PySem.Expr.ListComp _ _ _ _) _) _) _ _ _); (k_here; k_dflt (refine' assign_led ?kF9 ?kL9 ?sw9 ?cl9 ?ce9 ?ki9 ?nm9 ?hx9 ?hy9 ?hp9 ?_ ?fs9; (case kF9 => k_asm); (case kL9 => exact rfl); (case sw9 => with_unfolding_all rfl); (case cl9 => with_unfolding_all rfl); (case ce9 => decide); (case ki9 => with_unfolding_all rfl); (case nm9 => decide); (case hx9 => with_unfolding_all rfl); (case hy9 => with_unfolding_all rfl); (case hp9 => with_unfolding_all rfl); (case fs9 => intro _; with_unfolding_all rfl)))) | with_reducible (k_here; (with_reducible show wpAny _ _ (subscriptTail (PySem.Expr.List _ _) _ (Value.ref _) (Value.int _ _)) _ _ _); k_dflt (refine' menu3 ?mN ?mm ?m0 ?m1 ?_ ?ms; (case mN => k_asm); (case mm => k_mem); (case m0 => omega); (case m1 => omega); (case ms => with_unfolding_all rfl)); intro xk' tx') | with_reducible (k_here; (with_reducible show wpAny _ _ (subscriptTail _ (PySem.Expr.Slice _ _ none _) (Value.ref _) (Value.ref _)) _ _ _); k_dflt (refine' slice_tmp ?slF ?slN ?sll ?slp ?slq ?sli ?slm ?_ ?sls ?slz; (case slF => k_asm); (case slN => k_asm); (case sll => kmk_list); (case slp => kmk_part); (case slq => kmk_part); (case sli => l_ints); (case slm => decide); (case sls => with_unfolding_all rfl); (case slz => kmk_size)); intro D' ws' h' F' N' l1 hI'; (try k_lt l1); (try k_sweep)) | walk1 | ((refine' Hid.use ?hQ ?_); (case hQ => with_reducible assumption); (try dsimp only)) | dsimp only | (leave1; (try dsimp only)) | fail "no step"))
  refine iter_range rfl (by assumption) (by omega) (by omega) (by assumption) (by assumption) ?_
  intro I2 St2 h3 F3 N3 hI2
  refine comp_jarA (Rel := EventIn) (fun _ _ _ _ hs h => h.mono hs) (k := 7) hI2 (by omega) F3 N3 (by assumption) (by omega) ?_ ?_
  · intro tl2 o2 g2 own2 h4 tk4 C E2 hk2 J2 ho3 ho4 F4 N4
    simp only [List.cons_append, List.append_assoc] at N4
    (repeat' (first | ((with_reducible show wpAny _ _ _ _ _ (Shared.mk _ _ _ (_ + 1 + 1) _)); (refine forgetT ?_); (intro tk9); (try dsimp only)) | ((with_reducible show wpAny _ _ (PySem.exec _ _) _ _ _); ((fail_if_success (refine' hidden_test ?hQ ?_; (case hQ => with_reducible assumption))); (refine' hideQ ?_); (intro Q9 hQ9))) | (k_unfold; (try dsimp only)) | (k_end; w_end; exact absurd (rfl : (_ : Int) = _) (by with_reducible assumption)) | (k_end; w_end; (show GoodW _ _ _ _ _ (.ok (.ret (.bool _))) _); refine goodW_bool (by assumption) (by assumption) (raisesW_false ?_) ?_; (· wrow_none_raised); (· exact postT _)) | (k_end; wrow_close) | ((with_reducible show wpAny _ _ (call _ _ _) _ _ _); (first | with_reducible (k_here; (with_reducible show wpAny _ _ (call (Value.builtin "len") [Value.ref _]) _ _ _); k_dflt (refine' len_led ?lN ?lm ?ll ?lc ?_; (case lN => k_asm); (case lm => k_mem); (case ll => exact Paired.length (by assumption)); (case lc => omega))) | with_reducible (k_here; (with_reducible show wpAny _ _ (call (Value.ref 219) [Value.ref _, _, Value.ref _] _) _ _ _); k_dflt (refine' PDoes.use ?k1 ?k2 ?k3 ?k4 ?k5 ?k6 ?k7 (chkStarP ?h0) ?kd ?ku ?_; (case k1 => k_asm); (case k2 => k_asm); (case k3 => k_asm); (case k4 => k_asm); (case k5 => k_asm); (case k6 => first | exact rfl | assumption); (case k7 => first | exact rfl | assumption); (case h0 => k_mem); (case kd => decide); (case ku => decide)); (intro r' tl' h' tk' F' N' hab' hP'); (obtain ⟨e1', e2'⟩ := hP'); (subst e1'); (subst e2'); (try simp only [List.nil_append, List.cons_append, List.append_nil, List.append_assoc] at N'); (try k_sweep); (try dsimp only); (try k_fold)) | with_reducible (k_here; (with_reducible show wpAny _ _ (call (Value.ref 283) [_] _) _ _ _); k_dflt (refine' LDoes.use ?k1 ?k2 ?k3 ?k4 ?k5 ?k6 ?k7 (ExRowsC.use exRows1 ?h0) ?kd ?ku ?_; (case k1 => k_asm); (case k2 => k_asm); (case k3 => k_asm); (case k4 => k_asm); (case k5 => k_asm); (case k6 => first | exact rfl | assumption); (case k7 => first | exact rfl | assumption); (case h0 => first | assumption | exact ExIn.up (by assumption) (by tb_start)); (case kd => first | decide | ((try dsimp only [Around.deeper]); omega)); (case ku => first | decide | ((try dsimp only [Around.deeper]); omega))); (intro a' vs' n' tl' h' tk' F' N' hl' ho1' ho2' hab' hr'); (have hlen' := Paired.length hr'); (try simp only [List.nil_append, List.cons_append, List.append_nil, List.append_assoc] at N'); (try k_sweep); (try dsimp only); (try k_fold)) | with_reducible (k_here; (with_reducible show wpAny _ _ (call (Value.ref 304) _ _) _ _ _); k_dflt (refine' PDoes.useA ?k1 ?k2 ?k3 ?k4 ?k5 ?k6 ?k7 tables0 ?kd ?ku ?_; (case k1 => k_asm); (case k2 => k_asm); (case k3 => k_asm); (case k4 => k_asm); (case k5 => k_asm); (case k6 => first | exact rfl | assumption); (case k7 => first | exact rfl | assumption); (case kd => first | decide | ((try dsimp only [Around.deeper]); omega)); (case ku => first | decide | ((try dsimp only [Around.deeper]); omega))); (intro tv' tlt' h' tk' F' N' habt' hT'); (try simp only [List.nil_append, List.cons_append, List.append_nil, List.append_assoc] at N'); (try k_sweep); (try dsimp only); (try k_fold)) | with_reducible (k_here; (with_reducible show wpAny _ _ (call (Value.type _) [Value.ref _]) _ _ _); k_dflt (refine' tuple_led ?k1 ?k2 ?k3 ?k4 ?_; (case k1 => k_asm); (case k2 => k_asm); (case k3 => k_mem); (case k4 => omega)); intro D' h' F' N' l1; (try k_lt l1); (try k_sweep)) | with_reducible (k_here; (with_reducible show wpAny _ _ (call (Value.ref 266) [Value.ref _, Value.int _ _] _) _ _ _); k_dflt (refine' MDoes.use ?k1 ?k2 ?k3 ?k4 ?k5 ?k6 ?k7 ?kP (expr1 ?h0 ?h1) ?kJ ?kO ?kd ?ku ?_; (case k1 => k_asm); (case k2 => k_asm); (case k3 => k_asm); (case k4 => k_asm); (case k5 => k_asm); (case k6 => first | exact rfl | assumption); (case k7 => first | exact rfl | assumption); (case kP => repeat (first | exact Pick.head | apply Pick.tail)); (case kJ => assumption); (case h0 => tb_start); (case h1 => omega); (case kO => k_all); (case kd => first | decide | ((try dsimp only [Around.deeper]); omega)); (case ku => first | decide | ((try dsimp only [Around.deeper]); omega))); (intro r' o' tl' h' tk' F' N' hf' ho' hP'); (obtain ⟨J', rws', hE'⟩ := hP'); (try simp only [List.nil_append, List.cons_append, List.append_nil, List.append_assoc] at N'); (try k_sweep); (try dsimp only); (try k_fold)) | with_reducible (k_here; (with_reducible show wpAny _ _ (call (Value.ref 311) [_, Value.bool _] _) _ _ _); k_dflt (refine' PDoes.useA ?k1 ?k2 ?k3 ?k4 ?k5 ?k6 ?k7 (checked0 ?h0) ?kd ?ku ?_; (case k1 => k_asm); (case k2 => k_asm); (case k3 => k_asm); (case k4 => k_asm); (case k5 => k_asm); (case k6 => first | exact rfl | assumption); (case k7 => first | exact rfl | assumption); (case h0 => first | assumption | exact CaseIn.up (by assumption) (by tb_start)); (case kd => (try dsimp only [Around.deeper]); first | decide | omega); (case ku => (try dsimp only [Around.deeper]); first | decide | omega)); (intro r' tlc' h' tk' F' N' habc' hP'); (subst hP'); (try simp only [List.nil_append, List.cons_append, List.append_nil, List.append_assoc] at N'); (try k_sweep); (try dsimp only); (try k_fold)) | with_reducible (k_here; (with_reducible show wpAny _ _ (call (Value.ref 247) [Value.ref _, Value.int _ _] _) _ _ _); k_dflt (refine' MDoes.use ?k1 ?k2 ?k3 ?k4 ?k5 ?k6 ?k7 ?kP (draw ?h0 ?h1 ?h2 ?h3) ?kJ ?kO ?kd ?ku ?_; (case k1 => k_asm); (case k2 => k_asm); (case k3 => k_asm); (case k4 => k_asm); (case k5 => k_asm); (case k6 => first | exact rfl | assumption); (case k7 => first | exact rfl | assumption); (case kP => repeat (first | exact Pick.head | apply Pick.tail)); (case kJ => assumption); (case h0 => tb_start); (case h1 => omega); (case h2 => omega); (case h3 => omega); (case kO => k_all); (case kd => first | decide | ((try dsimp only [Around.deeper]); omega)); (case ku => first | decide | ((try dsimp only [Around.deeper]); omega))); (intro r' o' tl' h' tk' F' N' hf' ho' hP'); (obtain ⟨e1', J', i', t', e2', hlo', hhi'⟩ := hP'); (subst e1'); (subst e2'); (try simp only [List.nil_append, List.cons_append, List.append_nil, List.append_assoc] at N'); (try k_sweep); (try dsimp only); (try k_fold)))) | with_reducible (k_here; (with_reducible show wpAny _ _ (compareOp CmpOp.NotEq (Value.ref _) (Value.ref _)) _ _ _); k_dflt (refine' ne_rows ?zN ?za ?zb ?zr ?zs ?zl ?zu ?_; (case zN => k_asm); (case za => k_mem); (case zb => k_mem); (case zr => exact rowsUp (by assumption) (by tb_start)); (case zs => exact rowsUp (by assumption) (by tb_start)); (case zl => assumption); (case zu => exact Nat.le_of_ble_eq_true rfl))) | ((with_reducible show wpAny _ _ (PySem.eval (PySem.Expr.ListComp _ _ _ _) _) _ _ _); (k_here; refine' comp2_led ?kh ?c1 ?c2 ?c3 ?c4 ?c5 ?cn ?_ ?c6 ?c7; (case kh => k_asm); (case c1 => with_unfolding_all rfl); (case c2 => decide); (case c3 => with_unfolding_all rfl); (case c4 => decide); (case c5 => with_unfolding_all rfl); (case cn => decide); (case c6 => intro _; with_unfolding_all rfl); (case c7 => intro _ _; with_unfolding_all rfl))) | with_reducible ((with_reducible show wpAny _ _ (PySem.exec (PySem.Stmt.Assign _ (PySem.Expr.ListComp _ _ _ _) _) _) _ _ _); (k_here; k_dflt (refine' assign_led ?kF9 ?kL9 ?sw9 ?cl9 ?ce9 ?ki9 ?nm9 ?hx9 ?hy9 ?hp9 ?_ ?fs9; (case kF9 => k_asm); (case kL9 => exact rfl); (case sw9 => with_unfolding_all rfl); (case cl9 => with_unfolding_all rfl); (case ce9 => decide); (case ki9 => with_unfolding_all rfl); (case nm9 => decide); (case hx9 => with_unfolding_all rfl); (case hy9 => with_unfolding_all rfl); (case hp9 => with_unfolding_all rfl); (case fs9 => intro _; with_unfolding_all rfl)))) | with_reducible (k_here; (with_reducible show wpAny _ _ (subscriptTail (PySem.Expr.List _ _) _ (Value.ref _) (Value.int _ _)) _ _ _); k_dflt (refine' menu3 ?mN ?mm ?m0 ?m1 ?_ ?ms; (case mN => k_asm); (case mm => k_mem); (case m0 => omega); (case m1 => omega); (case ms => with_unfolding_all rfl)); intro xk' tx') | with_reducible (k_here; (with_reducible show wpAny _ _ (subscriptTail _ (PySem.Expr.Slice _ _ none _) (Value.ref _) (Value.ref _)) _ _ _); k_dflt (refine' slice_tmp ?slF ?slN ?sll ?slp ?slq ?sli ?slm ?_ ?sls ?slz; (case slF => k_asm); (case slN => k_asm); (case sll => kmk_list); (case slp => kmk_part); (case slq => kmk_part); (case sli => l_ints); (case slm => decide); (case sls => with_unfolding_all rfl); (case slz => kmk_size)); intro D' ws' h' F' N' l1 hI'; (try k_lt l1); (try k_sweep)) | walk1 | ((refine' Hid.use ?hQ ?_); (case hQ => with_reducible assumption); (try dsimp only)) | dsimp only | (leave1; (try dsimp only)) | fail "no step"))
    with_reducible rename News _ _ _ _ => N9
    with_reducible rename _ ∧ _ => l9
    refine' eltT ?eF N9 l9 ?eJ ?eG (eventIn_mk ?eR) ?eS ?eH
    case eF => assumption
    case eJ => assumption
    case eG => omega
    case eR => assumption
    case eS => tb_start
    case eH => tb_rel
  · intro D kk ys tl2 o2 bs h4 tk4 hlen hp J2 hf2 hlt hall hoD F4 N4
    have N5 := shrink0 N4
    clear N4
    have hev := eventsLen hp (by omega)
    have hlay := eventsLay hp
    have hne := ne_nil hlen (by omega)
    have hof2 := hf2.off
    repeat' (first | (fail_if_success (with_reducible show wpAny _ _ (call (Value.ref 219) _ _) _ _ _)); first | ((with_reducible show wpAny _ _ _ _ _ (Shared.mk _ _ _ (_ + 1 + 1) _)); (refine forgetT ?_); (intro tk9); (try dsimp only)) | ((with_reducible show wpAny _ _ (PySem.exec _ _) _ _ _); ((fail_if_success (refine' hidden_test ?hQ ?_; (case hQ => with_reducible assumption))); (refine' hideQ ?_); (intro Q9 hQ9))) | (k_unfold; (try dsimp only)) | (k_end; w_end; exact absurd (rfl : (_ : Int) = _) (by with_reducible assumption)) | (k_end; w_end; (show GoodW _ _ _ _ _ (.ok (.ret (.bool _))) _); refine goodW_bool (by assumption) (by assumption) (raisesW_false ?_) ?_; (· wrow_none_raised); (· exact postT _)) | (k_end; wrow_close) | ((with_reducible show wpAny _ _ (call _ _ _) _ _ _); (first | with_reducible (k_here; (with_reducible show wpAny _ _ (call (Value.builtin "len") [Value.ref _]) _ _ _); k_dflt (refine' len_led ?lN ?lm ?ll ?lc ?_; (case lN => k_asm); (case lm => k_mem); (case ll => exact Paired.length (by assumption)); (case lc => omega))) | with_reducible (k_here; (with_reducible show wpAny _ _ (call (Value.ref 219) [Value.ref _, _, Value.ref _] _) _ _ _); k_dflt (refine' PDoes.use ?k1 ?k2 ?k3 ?k4 ?k5 ?k6 ?k7 (chkStarP ?h0) ?kd ?ku ?_; (case k1 => k_asm); (case k2 => k_asm); (case k3 => k_asm); (case k4 => k_asm); (case k5 => k_asm); (case k6 => first | exact rfl | assumption); (case k7 => first | exact rfl | assumption); (case h0 => k_mem); (case kd => decide); (case ku => decide)); (intro r' tl' h' tk' F' N' hab' hP'); (obtain ⟨e1', e2'⟩ := hP'); (subst e1'); (subst e2'); (try simp only [List.nil_append, List.cons_append, List.append_nil, List.append_assoc] at N'); (try k_sweep); (try dsimp only); (try k_fold)) | with_reducible (k_here; (with_reducible show wpAny _ _ (call (Value.ref 283) [_] _) _ _ _); k_dflt (refine' LDoes.use ?k1 ?k2 ?k3 ?k4 ?k5 ?k6 ?k7 (ExRowsC.use exRows1 ?h0) ?kd ?ku ?_; (case k1 => k_asm); (case k2 => k_asm); (case k3 => k_asm); (case k4 => k_asm); (case k5 => k_asm); (case k6 => first | exact rfl | assumption); (case k7 => first | exact rfl | assumption); (case h0 => first | assumption | exact ExIn.up (by assumption) (by tb_start)); (case kd => first | decide | ((try dsimp only [Around.deeper]); omega)); (case ku => first | decide | ((try dsimp only [Around.deeper]); omega))); (intro a' vs' n' tl' h' tk' F' N' hl' ho1' ho2' hab' hr'); (have hlen' := Paired.length hr'); (try simp only [List.nil_append, List.cons_append, List.append_nil, List.append_assoc] at N'); (try k_sweep); (try dsimp only); (try k_fold)) | with_reducible (k_here; (with_reducible show wpAny _ _ (call (Value.ref 304) _ _) _ _ _); k_dflt (refine' PDoes.useA ?k1 ?k2 ?k3 ?k4 ?k5 ?k6 ?k7 tables0 ?kd ?ku ?_; (case k1 => k_asm); (case k2 => k_asm); (case k3 => k_asm); (case k4 => k_asm); (case k5 => k_asm); (case k6 => first | exact rfl | assumption); (case k7 => first | exact rfl | assumption); (case kd => first | decide | ((try dsimp only [Around.deeper]); omega)); (case ku => first | decide | ((try dsimp only [Around.deeper]); omega))); (intro tv' tlt' h' tk' F' N' habt' hT'); (try simp only [List.nil_append, List.cons_append, List.append_nil, List.append_assoc] at N'); (try k_sweep); (try dsimp only); (try k_fold)) | with_reducible (k_here; (with_reducible show wpAny _ _ (call (Value.type _) [Value.ref _]) _ _ _); k_dflt (refine' tuple_led ?k1 ?k2 ?k3 ?k4 ?_; (case k1 => k_asm); (case k2 => k_asm); (case k3 => k_mem); (case k4 => omega)); intro D' h' F' N' l1; (try k_lt l1); (try k_sweep)) | with_reducible (k_here; (with_reducible show wpAny _ _ (call (Value.ref 266) [Value.ref _, Value.int _ _] _) _ _ _); k_dflt (refine' MDoes.use ?k1 ?k2 ?k3 ?k4 ?k5 ?k6 ?k7 ?kP (expr1 ?h0 ?h1) ?kJ ?kO ?kd ?ku ?_; (case k1 => k_asm); (case k2 => k_asm); (case k3 => k_asm); (case k4 => k_asm); (case k5 => k_asm); (case k6 => first | exact rfl | assumption); (case k7 => first | exact rfl | assumption); (case kP => repeat (first | exact Pick.head | apply Pick.tail)); (case kJ => assumption); (case h0 => tb_start); (case h1 => omega); (case kO => k_all); (case kd => first | decide | ((try dsimp only [Around.deeper]); omega)); (case ku => first | decide | ((try dsimp only [Around.deeper]); omega))); (intro r' o' tl' h' tk' F' N' hf' ho' hP'); (obtain ⟨J', rws', hE'⟩ := hP'); (try simp only [List.nil_append, List.cons_append, List.append_nil, List.append_assoc] at N'); (try k_sweep); (try dsimp only); (try k_fold)) | with_reducible (k_here; (with_reducible show wpAny _ _ (call (Value.ref 311) [_, Value.bool _] _) _ _ _); k_dflt (refine' PDoes.useA ?k1 ?k2 ?k3 ?k4 ?k5 ?k6 ?k7 (checked0 ?h0) ?kd ?ku ?_; (case k1 => k_asm); (case k2 => k_asm); (case k3 => k_asm); (case k4 => k_asm); (case k5 => k_asm); (case k6 => first | exact rfl | assumption); (case k7 => first | exact rfl | assumption); (case h0 => first | assumption | exact CaseIn.up (by assumption) (by tb_start)); (case kd => (try dsimp only [Around.deeper]); first | decide | omega); (case ku => (try dsimp only [Around.deeper]); first | decide | omega)); (intro r' tlc' h' tk' F' N' habc' hP'); (subst hP'); (try simp only [List.nil_append, List.cons_append, List.append_nil, List.append_assoc] at N'); (try k_sweep); (try dsimp only); (try k_fold)) | with_reducible (k_here; (with_reducible show wpAny _ _ (call (Value.ref 247) [Value.ref _, Value.int _ _] _) _ _ _); k_dflt (refine' MDoes.use ?k1 ?k2 ?k3 ?k4 ?k5 ?k6 ?k7 ?kP (draw ?h0 ?h1 ?h2 ?h3) ?kJ ?kO ?kd ?ku ?_; (case k1 => k_asm); (case k2 => k_asm); (case k3 => k_asm); (case k4 => k_asm); (case k5 => k_asm); (case k6 => first | exact rfl | assumption); (case k7 => first | exact rfl | assumption); (case kP => repeat (first | exact Pick.head | apply Pick.tail)); (case kJ => assumption); (case h0 => tb_start); (case h1 => omega); (case h2 => omega); (case h3 => omega); (case kO => k_all); (case kd => first | decide | ((try dsimp only [Around.deeper]); omega)); (case ku => first | decide | ((try dsimp only [Around.deeper]); omega))); (intro r' o' tl' h' tk' F' N' hf' ho' hP'); (obtain ⟨e1', J', i', t', e2', hlo', hhi'⟩ := hP'); (subst e1'); (subst e2'); (try simp only [List.nil_append, List.cons_append, List.append_nil, List.append_assoc] at N'); (try k_sweep); (try dsimp only); (try k_fold)))) | with_reducible (k_here; (with_reducible show wpAny _ _ (compareOp CmpOp.NotEq (Value.ref _) (Value.ref _)) _ _ _); k_dflt (refine' ne_rows ?zN ?za ?zb ?zr ?zs ?zl ?zu ?_; (case zN => k_asm); (case za => k_mem); (case zb => k_mem); (case zr => exact rowsUp (by assumption) (by tb_start)); (case zs => exact rowsUp (by assumption) (by tb_start)); (case zl => assumption); (case zu => exact Nat.le_of_ble_eq_true rfl))) | ((with_reducible show wpAny _ _ (PySem.eval (PySem.Expr.ListComp _ _ _ _) _) _ _ _); (k_here; refine' comp2_led ?kh ?c1 ?c2 ?c3 ?c4 ?c5 ?cn ?_ ?c6 ?c7; (case kh => k_asm); (case c1 => with_unfolding_all rfl); (case c2 => decide); (case c3 => with_unfolding_all rfl); (case c4 => decide); (case c5 => with_unfolding_all rfl); (case cn => decide); (case c6 => intro _; with_unfolding_all rfl); (case c7 => intro _ _; with_unfolding_all rfl))) | with_reducible ((with_reducible show wpAny _ _ (PySem.exec (PySem.Stmt.Assign _ (PySem.Expr.ListComp _ _ _ _) _) _) _ _ _); (k_here; k_dflt (refine' assign_led ?kF9 ?kL9 ?sw9 ?cl9 ?ce9 ?ki9 ?nm9 ?hx9 ?hy9 ?hp9 ?_ ?fs9; (case kF9 => k_asm); (case kL9 => exact rfl); (case sw9 => with_unfolding_all rfl); (case cl9 => with_unfolding_all rfl); (case ce9 => decide); (case ki9 => with_unfolding_all rfl); (case nm9 => decide); (case hx9 => with_unfolding_all rfl); (case hy9 => with_unfolding_all rfl); (case hp9 => with_unfolding_all rfl); (case fs9 => intro _; with_unfolding_all rfl)))) | with_reducible (k_here; (with_reducible show wpAny _ _ (subscriptTail (PySem.Expr.List _ _) _ (Value.ref _) (Value.int _ _)) _ _ _); k_dflt (refine' menu3 ?mN ?mm ?m0 ?m1 ?_ ?ms; (case mN => k_asm); (case mm => k_mem); (case m0 => omega); (case m1 => omega); (case ms => with_unfolding_all rfl)); intro xk' tx') | with_reducible (k_here; (with_reducible show wpAny _ _ (subscriptTail _ (PySem.Expr.Slice _ _ none _) (Value.ref _) (Value.ref _)) _ _ _); k_dflt (refine' slice_tmp ?slF ?slN ?sll ?slp ?slq ?sli ?slm ?_ ?sls ?slz; (case slF => k_asm); (case slN => k_asm); (case sll => kmk_list); (case slp => kmk_part); (case slq => kmk_part); (case sli => l_ints); (case slm => decide); (case sls => with_unfolding_all rfl); (case slz => kmk_size)); intro D' ws' h' F' N' l1 hI'; (try k_lt l1); (try k_sweep)) | walk1 | ((refine' Hid.use ?hQ ?_); (case hQ => with_reducible assumption); (try dsimp only)) | dsimp only | (leave1; try dsimp only at *) | fail "no step")
    with_reducible rename News _ _ _ _ => N9
    with_reducible rename Above _ _ => hab9
    with_reducible rename _ ∧ _ ∧ _ ∧ _ ∧ AllLt _ _ => hl9
    with_reducible rename _ ∧ _ => hlD
    have hAt := repAt_of2 N9
    have hJr : Rep [] [] (listOf (#[] : Array Value) 0) := ⟨[], 0, rfl, .nil⟩
    have hO9 := off_all hab9 hl9
    simp only [List.cons_append, List.append_assoc] at hO9
    k_here
    (with_reducible show wpAny _ _ (call (Value.ref 219) [Value.ref _, _, Value.ref _] _) _ _ _)
    k_dflt (refine' MDoes.use ?k1 ?k2 ?k3 ?k4 ?k5 ?k6 ?k7 ?kP (chkEvents ?h0 ?h1 ?h2 ?h3 ?h4 ?h5 ?h6) ?kJ ?kO ?kd ?ku ?_; (case k1 => k_asm); (case k2 => k_asm); (case k3 => k_asm); (case k4 => k_asm); (case k5 => k_asm); (case k6 => first | exact rfl | assumption); (case k7 => first | exact rfl | assumption); (case kJ => assumption); (case kP => repeat (first | exact Pick.head | apply Pick.tail)); (case h0 => exact RepAt.up (by assumption) (by tb_start)); (case h1 => tb_start); (case h3 => exact TabIn.up (by assumption) (by tb_start)); (case h5 => assumption); (case h6 => k_mem); (case h4 => exact evUp (by assumption) (by tb_start)); (case h2 => (simp only [List.length_nil]; omega)); (case kO => exact off_consN hlD.1 hO9); (case kd => first | decide | ((try dsimp only [Around.deeper]); omega)); (case ku => first | decide | ((try dsimp only [Around.deeper]); omega)))
    (intro r' o' tl' h' tk' F' N' hf' ho' hP')
    (obtain ⟨e1', hJ'⟩ := hP')
    (subst e1')
    (try simp only [List.nil_append, List.cons_append, List.append_nil, List.append_assoc] at N')
    (try k_sweep)
    (try dsimp only)
    (try k_fold)
    obtain ⟨vs9, n9, rfl, hr9⟩ := hJ'
    simp only [List.nil_append] at hr9
    have N8 := shrink1 N'
    clear N'
    (repeat' (first | ((with_reducible show wpAny _ _ _ _ _ (Shared.mk _ _ _ (_ + 1 + 1) _)); (refine forgetT ?_); (intro tk9); (try dsimp only)) | ((with_reducible show wpAny _ _ (PySem.exec _ _) _ _ _); ((fail_if_success (refine' hidden_test ?hQ ?_; (case hQ => with_reducible assumption))); (refine' hideQ ?_); (intro Q9 hQ9))) | (k_unfold; (try dsimp only)) | (k_end; w_end; exact absurd (rfl : (_ : Int) = _) (by with_reducible assumption)) | (k_end; w_end; (show GoodW _ _ _ _ _ (.ok (.ret (.bool _))) _); refine goodW_bool (by assumption) (by assumption) (raisesW_false ?_) ?_; (· wrow_none_raised); (· exact postT _)) | (k_end; wrow_close) | ((with_reducible show wpAny _ _ (call _ _ _) _ _ _); (first | with_reducible (k_here; (with_reducible show wpAny _ _ (call (Value.builtin "len") [Value.ref _]) _ _ _); k_dflt (refine' len_led ?lN ?lm ?ll ?lc ?_; (case lN => k_asm); (case lm => k_mem); (case ll => exact Paired.length (by assumption)); (case lc => omega))) | with_reducible (k_here; (with_reducible show wpAny _ _ (call (Value.ref 219) [Value.ref _, _, Value.ref _] _) _ _ _); k_dflt (refine' PDoes.use ?k1 ?k2 ?k3 ?k4 ?k5 ?k6 ?k7 (chkStarP ?h0) ?kd ?ku ?_; (case k1 => k_asm); (case k2 => k_asm); (case k3 => k_asm); (case k4 => k_asm); (case k5 => k_asm); (case k6 => first | exact rfl | assumption); (case k7 => first | exact rfl | assumption); (case h0 => k_mem); (case kd => decide); (case ku => decide)); (intro r' tl' h' tk' F' N' hab' hP'); (obtain ⟨e1', e2'⟩ := hP'); (subst e1'); (subst e2'); (try simp only [List.nil_append, List.cons_append, List.append_nil, List.append_assoc] at N'); (try k_sweep); (try dsimp only); (try k_fold)) | with_reducible (k_here; (with_reducible show wpAny _ _ (call (Value.ref 283) [_] _) _ _ _); k_dflt (refine' LDoes.use ?k1 ?k2 ?k3 ?k4 ?k5 ?k6 ?k7 (ExRowsC.use exRows1 ?h0) ?kd ?ku ?_; (case k1 => k_asm); (case k2 => k_asm); (case k3 => k_asm); (case k4 => k_asm); (case k5 => k_asm); (case k6 => first | exact rfl | assumption); (case k7 => first | exact rfl | assumption); (case h0 => first | assumption | exact ExIn.up (by assumption) (by tb_start)); (case kd => first | decide | ((try dsimp only [Around.deeper]); omega)); (case ku => first | decide | ((try dsimp only [Around.deeper]); omega))); (intro a' vs' n' tl' h' tk' F' N' hl' ho1' ho2' hab' hr'); (have hlen' := Paired.length hr'); (try simp only [List.nil_append, List.cons_append, List.append_nil, List.append_assoc] at N'); (try k_sweep); (try dsimp only); (try k_fold)) | with_reducible (k_here; (with_reducible show wpAny _ _ (call (Value.ref 304) _ _) _ _ _); k_dflt (refine' PDoes.useA ?k1 ?k2 ?k3 ?k4 ?k5 ?k6 ?k7 tables0 ?kd ?ku ?_; (case k1 => k_asm); (case k2 => k_asm); (case k3 => k_asm); (case k4 => k_asm); (case k5 => k_asm); (case k6 => first | exact rfl | assumption); (case k7 => first | exact rfl | assumption); (case kd => first | decide | ((try dsimp only [Around.deeper]); omega)); (case ku => first | decide | ((try dsimp only [Around.deeper]); omega))); (intro tv' tlt' h' tk' F' N' habt' hT'); (try simp only [List.nil_append, List.cons_append, List.append_nil, List.append_assoc] at N'); (try k_sweep); (try dsimp only); (try k_fold)) | with_reducible (k_here; (with_reducible show wpAny _ _ (call (Value.type _) [Value.ref _]) _ _ _); k_dflt (refine' tuple_led ?k1 ?k2 ?k3 ?k4 ?_; (case k1 => k_asm); (case k2 => k_asm); (case k3 => k_mem); (case k4 => omega)); intro D' h' F' N' l1; (try k_lt l1); (try k_sweep)) | with_reducible (k_here; (with_reducible show wpAny _ _ (call (Value.ref 266) [Value.ref _, Value.int _ _] _) _ _ _); k_dflt (refine' MDoes.use ?k1 ?k2 ?k3 ?k4 ?k5 ?k6 ?k7 ?kP (expr1 ?h0 ?h1) ?kJ ?kO ?kd ?ku ?_; (case k1 => k_asm); (case k2 => k_asm); (case k3 => k_asm); (case k4 => k_asm); (case k5 => k_asm); (case k6 => first | exact rfl | assumption); (case k7 => first | exact rfl | assumption); (case kP => repeat (first | exact Pick.head | apply Pick.tail)); (case kJ => assumption); (case h0 => tb_start); (case h1 => omega); (case kO => k_all); (case kd => first | decide | ((try dsimp only [Around.deeper]); omega)); (case ku => first | decide | ((try dsimp only [Around.deeper]); omega))); (intro r' o' tl' h' tk' F' N' hf' ho' hP'); (obtain ⟨J', rws', hE'⟩ := hP'); (try simp only [List.nil_append, List.cons_append, List.append_nil, List.append_assoc] at N'); (try k_sweep); (try dsimp only); (try k_fold)) | with_reducible (k_here; (with_reducible show wpAny _ _ (call (Value.ref 311) [_, Value.bool _] _) _ _ _); k_dflt (refine' PDoes.useA ?k1 ?k2 ?k3 ?k4 ?k5 ?k6 ?k7 (checked0 ?h0) ?kd ?ku ?_; (case k1 => k_asm); (case k2 => k_asm); (case k3 => k_asm); (case k4 => k_asm); (case k5 => k_asm); (case k6 => first | exact rfl | assumption); (case k7 => first | exact rfl | assumption); (case h0 => first | assumption | exact CaseIn.up (by assumption) (by tb_start)); (case kd => (try dsimp only [Around.deeper]); first | decide | omega); (case ku => (try dsimp only [Around.deeper]); first | decide | omega)); (intro r' tlc' h' tk' F' N' habc' hP'); (subst hP'); (try simp only [List.nil_append, List.cons_append, List.append_nil, List.append_assoc] at N'); (try k_sweep); (try dsimp only); (try k_fold)) | with_reducible (k_here; (with_reducible show wpAny _ _ (call (Value.ref 247) [Value.ref _, Value.int _ _] _) _ _ _); k_dflt (refine' MDoes.use ?k1 ?k2 ?k3 ?k4 ?k5 ?k6 ?k7 ?kP (draw ?h0 ?h1 ?h2 ?h3) ?kJ ?kO ?kd ?ku ?_; (case k1 => k_asm); (case k2 => k_asm); (case k3 => k_asm); (case k4 => k_asm); (case k5 => k_asm); (case k6 => first | exact rfl | assumption); (case k7 => first | exact rfl | assumption); (case kP => repeat (first | exact Pick.head | apply Pick.tail)); (case kJ => assumption); (case h0 => tb_start); (case h1 => omega); (case h2 => omega); (case h3 => omega); (case kO => k_all); (case kd => first | decide | ((try dsimp only [Around.deeper]); omega)); (case ku => first | decide | ((try dsimp only [Around.deeper]); omega))); (intro r' o' tl' h' tk' F' N' hf' ho' hP'); (obtain ⟨e1', J', i', t', e2', hlo', hhi'⟩ := hP'); (subst e1'); (subst e2'); (try simp only [List.nil_append, List.cons_append, List.append_nil, List.append_assoc] at N'); (try k_sweep); (try dsimp only); (try k_fold)))) | with_reducible (k_here; (with_reducible show wpAny _ _ (compareOp CmpOp.NotEq (Value.ref _) (Value.ref _)) _ _ _); k_dflt (refine' ne_rows ?zN ?za ?zb ?zr ?zs ?zl ?zu ?_; (case zN => k_asm); (case za => k_mem); (case zb => k_mem); (case zr => exact rowsUp (by assumption) (by tb_start)); (case zs => exact rowsUp (by assumption) (by tb_start)); (case zl => assumption); (case zu => exact Nat.le_of_ble_eq_true rfl))) | ((with_reducible show wpAny _ _ (PySem.eval (PySem.Expr.ListComp _ _ _ _) _) _ _ _); (k_here; refine' comp2_led ?kh ?c1 ?c2 ?c3 ?c4 ?c5 ?cn ?_ ?c6 ?c7; (case kh => k_asm); (case c1 => with_unfolding_all rfl); (case c2 => decide); (case c3 => with_unfolding_all rfl); (case c4 => decide); (case c5 => with_unfolding_all rfl); (case cn => decide); (case c6 => intro _; with_unfolding_all rfl); (case c7 => intro _ _; with_unfolding_all rfl))) | with_reducible ((with_reducible show wpAny _ _ (PySem.exec (PySem.Stmt.Assign _ (PySem.Expr.ListComp _ _ _ _) _) _) _ _ _); (k_here; k_dflt (refine' assign_led ?kF9 ?kL9 ?sw9 ?cl9 ?ce9 ?ki9 ?nm9 ?hx9 ?hy9 ?hp9 ?_ ?fs9; (case kF9 => k_asm); (case kL9 => exact rfl); (case sw9 => with_unfolding_all rfl); (case cl9 => with_unfolding_all rfl); (case ce9 => decide); (case ki9 => with_unfolding_all rfl); (case nm9 => decide); (case hx9 => with_unfolding_all rfl); (case hy9 => with_unfolding_all rfl); (case hp9 => with_unfolding_all rfl); (case fs9 => intro _; with_unfolding_all rfl)))) | with_reducible (k_here; (with_reducible show wpAny _ _ (subscriptTail (PySem.Expr.List _ _) _ (Value.ref _) (Value.int _ _)) _ _ _); k_dflt (refine' menu3 ?mN ?mm ?m0 ?m1 ?_ ?ms; (case mN => k_asm); (case mm => k_mem); (case m0 => omega); (case m1 => omega); (case ms => with_unfolding_all rfl)); intro xk' tx') | with_reducible (k_here; (with_reducible show wpAny _ _ (subscriptTail _ (PySem.Expr.Slice _ _ none _) (Value.ref _) (Value.ref _)) _ _ _); k_dflt (refine' slice_tmp ?slF ?slN ?sll ?slp ?slq ?sli ?slm ?_ ?sls ?slz; (case slF => k_asm); (case slN => k_asm); (case sll => kmk_list); (case slp => kmk_part); (case slq => kmk_part); (case sli => l_ints); (case slm => decide); (case sls => with_unfolding_all rfl); (case slz => kmk_size)); intro D' ws' h' F' N' l1 hI'; (try k_lt l1); (try k_sweep)) | walk1 | ((refine' Hid.use ?hQ ?_); (case hQ => with_reducible assumption); (try dsimp only)) | dsimp only | (leave1; (try dsimp only)) | fail "no step"))
    refine iter_list2 rfl (by assumption) (by assumption) (by k_mem) ?_
    intro I5 St5 h5 F5 N5 hI5 hIt5
    refine comp2_pairs rfl hI5 F5 N5 hIt5 ?fx5 (evUp hp ?up5) (by omega) rfl (by with_unfolding_all rfl) (by with_unfolding_all rfl) ?tn5 ?dn5
    case fx5 =>
      intro p hp5
      rw [List.mem_singleton.mp hp5]
      k_mem
    case up5 => tb_start
    case tn5 =>
      intro led5 h6 tk6 mC5 E5 C5 oC5 e5 rows5 hEX F6 N6 hNs5 hG5
      (try dsimp only at hG5)
      repeat' (first | (fail_if_success (with_reducible show wpAny _ _ (call (Value.ref 283) _ _) _ _ _)); first | ((with_reducible show wpAny _ _ _ _ _ (Shared.mk _ _ _ (_ + 1 + 1) _)); (refine forgetT ?_); (intro tk9); (try dsimp only)) | ((with_reducible show wpAny _ _ (PySem.exec _ _) _ _ _); ((fail_if_success (refine' hidden_test ?hQ ?_; (case hQ => with_reducible assumption))); (refine' hideQ ?_); (intro Q9 hQ9))) | (k_unfold; (try dsimp only)) | (k_end; w_end; exact absurd (rfl : (_ : Int) = _) (by with_reducible assumption)) | (k_end; w_end; (show GoodW _ _ _ _ _ (.ok (.ret (.bool _))) _); refine goodW_bool (by assumption) (by assumption) (raisesW_false ?_) ?_; (· wrow_none_raised); (· exact postT _)) | (k_end; wrow_close) | ((with_reducible show wpAny _ _ (call _ _ _) _ _ _); (first | with_reducible (k_here; (with_reducible show wpAny _ _ (call (Value.builtin "len") [Value.ref _]) _ _ _); k_dflt (refine' len_led ?lN ?lm ?ll ?lc ?_; (case lN => k_asm); (case lm => k_mem); (case ll => exact Paired.length (by assumption)); (case lc => omega))) | with_reducible (k_here; (with_reducible show wpAny _ _ (call (Value.ref 219) [Value.ref _, _, Value.ref _] _) _ _ _); k_dflt (refine' PDoes.use ?k1 ?k2 ?k3 ?k4 ?k5 ?k6 ?k7 (chkStarP ?h0) ?kd ?ku ?_; (case k1 => k_asm); (case k2 => k_asm); (case k3 => k_asm); (case k4 => k_asm); (case k5 => k_asm); (case k6 => first | exact rfl | assumption); (case k7 => first | exact rfl | assumption); (case h0 => k_mem); (case kd => decide); (case ku => decide)); (intro r' tl' h' tk' F' N' hab' hP'); (obtain ⟨e1', e2'⟩ := hP'); (subst e1'); (subst e2'); (try simp only [List.nil_append, List.cons_append, List.append_nil, List.append_assoc] at N'); (try k_sweep); (try dsimp only); (try k_fold)) | with_reducible (k_here; (with_reducible show wpAny _ _ (call (Value.ref 283) [_] _) _ _ _); k_dflt (refine' LDoes.use ?k1 ?k2 ?k3 ?k4 ?k5 ?k6 ?k7 (ExRowsC.use exRows1 ?h0) ?kd ?ku ?_; (case k1 => k_asm); (case k2 => k_asm); (case k3 => k_asm); (case k4 => k_asm); (case k5 => k_asm); (case k6 => first | exact rfl | assumption); (case k7 => first | exact rfl | assumption); (case h0 => first | assumption | exact ExIn.up (by assumption) (by tb_start)); (case kd => first | decide | ((try dsimp only [Around.deeper]); omega)); (case ku => first | decide | ((try dsimp only [Around.deeper]); omega))); (intro a' vs' n' tl' h' tk' F' N' hl' ho1' ho2' hab' hr'); (have hlen' := Paired.length hr'); (try simp only [List.nil_append, List.cons_append, List.append_nil, List.append_assoc] at N'); (try k_sweep); (try dsimp only); (try k_fold)) | with_reducible (k_here; (with_reducible show wpAny _ _ (call (Value.ref 304) _ _) _ _ _); k_dflt (refine' PDoes.useA ?k1 ?k2 ?k3 ?k4 ?k5 ?k6 ?k7 tables0 ?kd ?ku ?_; (case k1 => k_asm); (case k2 => k_asm); (case k3 => k_asm); (case k4 => k_asm); (case k5 => k_asm); (case k6 => first | exact rfl | assumption); (case k7 => first | exact rfl | assumption); (case kd => first | decide | ((try dsimp only [Around.deeper]); omega)); (case ku => first | decide | ((try dsimp only [Around.deeper]); omega))); (intro tv' tlt' h' tk' F' N' habt' hT'); (try simp only [List.nil_append, List.cons_append, List.append_nil, List.append_assoc] at N'); (try k_sweep); (try dsimp only); (try k_fold)) | with_reducible (k_here; (with_reducible show wpAny _ _ (call (Value.type _) [Value.ref _]) _ _ _); k_dflt (refine' tuple_led ?k1 ?k2 ?k3 ?k4 ?_; (case k1 => k_asm); (case k2 => k_asm); (case k3 => k_mem); (case k4 => omega)); intro D' h' F' N' l1; (try k_lt l1); (try k_sweep)) | with_reducible (k_here; (with_reducible show wpAny _ _ (call (Value.ref 266) [Value.ref _, Value.int _ _] _) _ _ _); k_dflt (refine' MDoes.use ?k1 ?k2 ?k3 ?k4 ?k5 ?k6 ?k7 ?kP (expr1 ?h0 ?h1) ?kJ ?kO ?kd ?ku ?_; (case k1 => k_asm); (case k2 => k_asm); (case k3 => k_asm); (case k4 => k_asm); (case k5 => k_asm); (case k6 => first | exact rfl | assumption); (case k7 => first | exact rfl | assumption); (case kP => repeat (first | exact Pick.head | apply Pick.tail)); (case kJ => assumption); (case h0 => tb_start); (case h1 => omega); (case kO => k_all); (case kd => first | decide | ((try dsimp only [Around.deeper]); omega)); (case ku => first | decide | ((try dsimp only [Around.deeper]); omega))); (intro r' o' tl' h' tk' F' N' hf' ho' hP'); (obtain ⟨J', rws', hE'⟩ := hP'); (try simp only [List.nil_append, List.cons_append, List.append_nil, List.append_assoc] at N'); (try k_sweep); (try dsimp only); (try k_fold)) | with_reducible (k_here; (with_reducible show wpAny _ _ (call (Value.ref 311) [_, Value.bool _] _) _ _ _); k_dflt (refine' PDoes.useA ?k1 ?k2 ?k3 ?k4 ?k5 ?k6 ?k7 (checked0 ?h0) ?kd ?ku ?_; (case k1 => k_asm); (case k2 => k_asm); (case k3 => k_asm); (case k4 => k_asm); (case k5 => k_asm); (case k6 => first | exact rfl | assumption); (case k7 => first | exact rfl | assumption); (case h0 => first | assumption | exact CaseIn.up (by assumption) (by tb_start)); (case kd => (try dsimp only [Around.deeper]); first | decide | omega); (case ku => (try dsimp only [Around.deeper]); first | decide | omega)); (intro r' tlc' h' tk' F' N' habc' hP'); (subst hP'); (try simp only [List.nil_append, List.cons_append, List.append_nil, List.append_assoc] at N'); (try k_sweep); (try dsimp only); (try k_fold)) | with_reducible (k_here; (with_reducible show wpAny _ _ (call (Value.ref 247) [Value.ref _, Value.int _ _] _) _ _ _); k_dflt (refine' MDoes.use ?k1 ?k2 ?k3 ?k4 ?k5 ?k6 ?k7 ?kP (draw ?h0 ?h1 ?h2 ?h3) ?kJ ?kO ?kd ?ku ?_; (case k1 => k_asm); (case k2 => k_asm); (case k3 => k_asm); (case k4 => k_asm); (case k5 => k_asm); (case k6 => first | exact rfl | assumption); (case k7 => first | exact rfl | assumption); (case kP => repeat (first | exact Pick.head | apply Pick.tail)); (case kJ => assumption); (case h0 => tb_start); (case h1 => omega); (case h2 => omega); (case h3 => omega); (case kO => k_all); (case kd => first | decide | ((try dsimp only [Around.deeper]); omega)); (case ku => first | decide | ((try dsimp only [Around.deeper]); omega))); (intro r' o' tl' h' tk' F' N' hf' ho' hP'); (obtain ⟨e1', J', i', t', e2', hlo', hhi'⟩ := hP'); (subst e1'); (subst e2'); (try simp only [List.nil_append, List.cons_append, List.append_nil, List.append_assoc] at N'); (try k_sweep); (try dsimp only); (try k_fold)))) | with_reducible (k_here; (with_reducible show wpAny _ _ (compareOp CmpOp.NotEq (Value.ref _) (Value.ref _)) _ _ _); k_dflt (refine' ne_rows ?zN ?za ?zb ?zr ?zs ?zl ?zu ?_; (case zN => k_asm); (case za => k_mem); (case zb => k_mem); (case zr => exact rowsUp (by assumption) (by tb_start)); (case zs => exact rowsUp (by assumption) (by tb_start)); (case zl => assumption); (case zu => exact Nat.le_of_ble_eq_true rfl))) | ((with_reducible show wpAny _ _ (PySem.eval (PySem.Expr.ListComp _ _ _ _) _) _ _ _); (k_here; refine' comp2_led ?kh ?c1 ?c2 ?c3 ?c4 ?c5 ?cn ?_ ?c6 ?c7; (case kh => k_asm); (case c1 => with_unfolding_all rfl); (case c2 => decide); (case c3 => with_unfolding_all rfl); (case c4 => decide); (case c5 => with_unfolding_all rfl); (case cn => decide); (case c6 => intro _; with_unfolding_all rfl); (case c7 => intro _ _; with_unfolding_all rfl))) | with_reducible ((with_reducible show wpAny _ _ (PySem.exec (PySem.Stmt.Assign _ (PySem.Expr.ListComp _ _ _ _) _) _) _ _ _); (k_here; k_dflt (refine' assign_led ?kF9 ?kL9 ?sw9 ?cl9 ?ce9 ?ki9 ?nm9 ?hx9 ?hy9 ?hp9 ?_ ?fs9; (case kF9 => k_asm); (case kL9 => exact rfl); (case sw9 => with_unfolding_all rfl); (case cl9 => with_unfolding_all rfl); (case ce9 => decide); (case ki9 => with_unfolding_all rfl); (case nm9 => decide); (case hx9 => with_unfolding_all rfl); (case hy9 => with_unfolding_all rfl); (case hp9 => with_unfolding_all rfl); (case fs9 => intro _; with_unfolding_all rfl)))) | with_reducible (k_here; (with_reducible show wpAny _ _ (subscriptTail (PySem.Expr.List _ _) _ (Value.ref _) (Value.int _ _)) _ _ _); k_dflt (refine' menu3 ?mN ?mm ?m0 ?m1 ?_ ?ms; (case mN => k_asm); (case mm => k_mem); (case m0 => omega); (case m1 => omega); (case ms => with_unfolding_all rfl)); intro xk' tx') | with_reducible (k_here; (with_reducible show wpAny _ _ (subscriptTail _ (PySem.Expr.Slice _ _ none _) (Value.ref _) (Value.ref _)) _ _ _); k_dflt (refine' slice_tmp ?slF ?slN ?sll ?slp ?slq ?sli ?slm ?_ ?sls ?slz; (case slF => k_asm); (case slN => k_asm); (case sll => kmk_list); (case slp => kmk_part); (case slq => kmk_part); (case sli => l_ints); (case slm => decide); (case sls => with_unfolding_all rfl); (case slz => kmk_size)); intro D' ws' h' F' N' l1 hI'; (try k_lt l1); (try k_sweep)) | walk1 | ((refine' Hid.use ?hQ ?_); (case hQ => with_reducible assumption); (try dsimp only)) | dsimp only | (leave1; try dsimp only at *) | fail "no step")
      k_here
      k_dflt (refine' LDoes.use ?k1 ?k2 ?k3 ?k4 ?kv ?k6 ?k7 (ExRowsC.use exRows1 ?h0) ?kd ?ku ?_; (case k1 => k_asm); (case k2 => k_asm); (case k3 => k_asm); (case k4 => k_asm); (case kv => k_asm); (case k6 => first | exact rfl | assumption); (case k7 => first | exact rfl | assumption); (case h0 => exact hEX); (case kd => decide); (case ku => decide))
      intro a' vs' n' tl' h' tk' F' N' hl' ho1' ho2' hab' hr'
      exact RowsTurn.intro F' N' (.head _) (fun _ h => .tail _ h) hl' hab' hr'
    case dn5 =>
      intro D5 k5 ys5 tl5 h6 tk6 hr5 hl5 ho5 hab5 F6 N6
      simp only [List.cons_append, List.append_assoc] at N6
      (repeat' (first | ((with_reducible show wpAny _ _ _ _ _ (Shared.mk _ _ _ (_ + 1 + 1) _)); (refine forgetT ?_); (intro tk9); (try dsimp only)) | ((with_reducible show wpAny _ _ (PySem.exec _ _) _ _ _); ((fail_if_success (refine' hidden_test ?hQ ?_; (case hQ => with_reducible assumption))); (refine' hideQ ?_); (intro Q9 hQ9))) | (k_unfold; (try dsimp only)) | (k_end; w_end; exact absurd (rfl : (_ : Int) = _) (by with_reducible assumption)) | (k_end; w_end; (show GoodW _ _ _ _ _ (.ok (.ret (.bool _))) _); refine goodW_bool (by assumption) (by assumption) (raisesW_false ?_) ?_; (· wrow_none_raised); (· exact postT _)) | (k_end; wrow_close) | ((with_reducible show wpAny _ _ (call _ _ _) _ _ _); (first | with_reducible (k_here; (with_reducible show wpAny _ _ (call (Value.builtin "len") [Value.ref _]) _ _ _); k_dflt (refine' len_led ?lN ?lm ?ll ?lc ?_; (case lN => k_asm); (case lm => k_mem); (case ll => exact Paired.length (by assumption)); (case lc => omega))) | with_reducible (k_here; (with_reducible show wpAny _ _ (call (Value.ref 219) [Value.ref _, _, Value.ref _] _) _ _ _); k_dflt (refine' PDoes.use ?k1 ?k2 ?k3 ?k4 ?k5 ?k6 ?k7 (chkStarP ?h0) ?kd ?ku ?_; (case k1 => k_asm); (case k2 => k_asm); (case k3 => k_asm); (case k4 => k_asm); (case k5 => k_asm); (case k6 => first | exact rfl | assumption); (case k7 => first | exact rfl | assumption); (case h0 => k_mem); (case kd => decide); (case ku => decide)); (intro r' tl' h' tk' F' N' hab' hP'); (obtain ⟨e1', e2'⟩ := hP'); (subst e1'); (subst e2'); (try simp only [List.nil_append, List.cons_append, List.append_nil, List.append_assoc] at N'); (try k_sweep); (try dsimp only); (try k_fold)) | with_reducible (k_here; (with_reducible show wpAny _ _ (call (Value.ref 283) [_] _) _ _ _); k_dflt (refine' LDoes.use ?k1 ?k2 ?k3 ?k4 ?k5 ?k6 ?k7 (ExRowsC.use exRows1 ?h0) ?kd ?ku ?_; (case k1 => k_asm); (case k2 => k_asm); (case k3 => k_asm); (case k4 => k_asm); (case k5 => k_asm); (case k6 => first | exact rfl | assumption); (case k7 => first | exact rfl | assumption); (case h0 => first | assumption | exact ExIn.up (by assumption) (by tb_start)); (case kd => first | decide | ((try dsimp only [Around.deeper]); omega)); (case ku => first | decide | ((try dsimp only [Around.deeper]); omega))); (intro a' vs' n' tl' h' tk' F' N' hl' ho1' ho2' hab' hr'); (have hlen' := Paired.length hr'); (try simp only [List.nil_append, List.cons_append, List.append_nil, List.append_assoc] at N'); (try k_sweep); (try dsimp only); (try k_fold)) | with_reducible (k_here; (with_reducible show wpAny _ _ (call (Value.ref 304) _ _) _ _ _); k_dflt (refine' PDoes.useA ?k1 ?k2 ?k3 ?k4 ?k5 ?k6 ?k7 tables0 ?kd ?ku ?_; (case k1 => k_asm); (case k2 => k_asm); (case k3 => k_asm); (case k4 => k_asm); (case k5 => k_asm); (case k6 => first | exact rfl | assumption); (case k7 => first | exact rfl | assumption); (case kd => first | decide | ((try dsimp only [Around.deeper]); omega)); (case ku => first | decide | ((try dsimp only [Around.deeper]); omega))); (intro tv' tlt' h' tk' F' N' habt' hT'); (try simp only [List.nil_append, List.cons_append, List.append_nil, List.append_assoc] at N'); (try k_sweep); (try dsimp only); (try k_fold)) | with_reducible (k_here; (with_reducible show wpAny _ _ (call (Value.type _) [Value.ref _]) _ _ _); k_dflt (refine' tuple_led ?k1 ?k2 ?k3 ?k4 ?_; (case k1 => k_asm); (case k2 => k_asm); (case k3 => k_mem); (case k4 => omega)); intro D' h' F' N' l1; (try k_lt l1); (try k_sweep)) | with_reducible (k_here; (with_reducible show wpAny _ _ (call (Value.ref 266) [Value.ref _, Value.int _ _] _) _ _ _); k_dflt (refine' MDoes.use ?k1 ?k2 ?k3 ?k4 ?k5 ?k6 ?k7 ?kP (expr1 ?h0 ?h1) ?kJ ?kO ?kd ?ku ?_; (case k1 => k_asm); (case k2 => k_asm); (case k3 => k_asm); (case k4 => k_asm); (case k5 => k_asm); (case k6 => first | exact rfl | assumption); (case k7 => first | exact rfl | assumption); (case kP => repeat (first | exact Pick.head | apply Pick.tail)); (case kJ => assumption); (case h0 => tb_start); (case h1 => omega); (case kO => k_all); (case kd => first | decide | ((try dsimp only [Around.deeper]); omega)); (case ku => first | decide | ((try dsimp only [Around.deeper]); omega))); (intro r' o' tl' h' tk' F' N' hf' ho' hP'); (obtain ⟨J', rws', hE'⟩ := hP'); (try simp only [List.nil_append, List.cons_append, List.append_nil, List.append_assoc] at N'); (try k_sweep); (try dsimp only); (try k_fold)) | with_reducible (k_here; (with_reducible show wpAny _ _ (call (Value.ref 311) [_, Value.bool _] _) _ _ _); k_dflt (refine' PDoes.useA ?k1 ?k2 ?k3 ?k4 ?k5 ?k6 ?k7 (checked0 ?h0) ?kd ?ku ?_; (case k1 => k_asm); (case k2 => k_asm); (case k3 => k_asm); (case k4 => k_asm); (case k5 => k_asm); (case k6 => first | exact rfl | assumption); (case k7 => first | exact rfl | assumption); (case h0 => first | assumption | exact CaseIn.up (by assumption) (by tb_start)); (case kd => (try dsimp only [Around.deeper]); first | decide | omega); (case ku => (try dsimp only [Around.deeper]); first | decide | omega)); (intro r' tlc' h' tk' F' N' habc' hP'); (subst hP'); (try simp only [List.nil_append, List.cons_append, List.append_nil, List.append_assoc] at N'); (try k_sweep); (try dsimp only); (try k_fold)) | with_reducible (k_here; (with_reducible show wpAny _ _ (call (Value.ref 247) [Value.ref _, Value.int _ _] _) _ _ _); k_dflt (refine' MDoes.use ?k1 ?k2 ?k3 ?k4 ?k5 ?k6 ?k7 ?kP (draw ?h0 ?h1 ?h2 ?h3) ?kJ ?kO ?kd ?ku ?_; (case k1 => k_asm); (case k2 => k_asm); (case k3 => k_asm); (case k4 => k_asm); (case k5 => k_asm); (case k6 => first | exact rfl | assumption); (case k7 => first | exact rfl | assumption); (case kP => repeat (first | exact Pick.head | apply Pick.tail)); (case kJ => assumption); (case h0 => tb_start); (case h1 => omega); (case h2 => omega); (case h3 => omega); (case kO => k_all); (case kd => first | decide | ((try dsimp only [Around.deeper]); omega)); (case ku => first | decide | ((try dsimp only [Around.deeper]); omega))); (intro r' o' tl' h' tk' F' N' hf' ho' hP'); (obtain ⟨e1', J', i', t', e2', hlo', hhi'⟩ := hP'); (subst e1'); (subst e2'); (try simp only [List.nil_append, List.cons_append, List.append_nil, List.append_assoc] at N'); (try k_sweep); (try dsimp only); (try k_fold)))) | with_reducible (k_here; (with_reducible show wpAny _ _ (compareOp CmpOp.NotEq (Value.ref _) (Value.ref _)) _ _ _); k_dflt (refine' ne_rows ?zN ?za ?zb ?zr ?zs ?zl ?zu ?_; (case zN => k_asm); (case za => k_mem); (case zb => k_mem); (case zr => exact rowsUp (by assumption) (by tb_start)); (case zs => exact rowsUp (by assumption) (by tb_start)); (case zl => assumption); (case zu => exact Nat.le_of_ble_eq_true rfl))) | ((with_reducible show wpAny _ _ (PySem.eval (PySem.Expr.ListComp _ _ _ _) _) _ _ _); (k_here; refine' comp2_led ?kh ?c1 ?c2 ?c3 ?c4 ?c5 ?cn ?_ ?c6 ?c7; (case kh => k_asm); (case c1 => with_unfolding_all rfl); (case c2 => decide); (case c3 => with_unfolding_all rfl); (case c4 => decide); (case c5 => with_unfolding_all rfl); (case cn => decide); (case c6 => intro _; with_unfolding_all rfl); (case c7 => intro _ _; with_unfolding_all rfl))) | with_reducible ((with_reducible show wpAny _ _ (PySem.exec (PySem.Stmt.Assign _ (PySem.Expr.ListComp _ _ _ _) _) _) _ _ _); (k_here; k_dflt (refine' assign_led ?kF9 ?kL9 ?sw9 ?cl9 ?ce9 ?ki9 ?nm9 ?hx9 ?hy9 ?hp9 ?_ ?fs9; (case kF9 => k_asm); (case kL9 => exact rfl); (case sw9 => with_unfolding_all rfl); (case cl9 => with_unfolding_all rfl); (case ce9 => decide); (case ki9 => with_unfolding_all rfl); (case nm9 => decide); (case hx9 => with_unfolding_all rfl); (case hy9 => with_unfolding_all rfl); (case hp9 => with_unfolding_all rfl); (case fs9 => intro _; with_unfolding_all rfl)))) | with_reducible (k_here; (with_reducible show wpAny _ _ (subscriptTail (PySem.Expr.List _ _) _ (Value.ref _) (Value.int _ _)) _ _ _); k_dflt (refine' menu3 ?mN ?mm ?m0 ?m1 ?_ ?ms; (case mN => k_asm); (case mm => k_mem); (case m0 => omega); (case m1 => omega); (case ms => with_unfolding_all rfl)); intro xk' tx') | with_reducible (k_here; (with_reducible show wpAny _ _ (subscriptTail _ (PySem.Expr.Slice _ _ none _) (Value.ref _) (Value.ref _)) _ _ _); k_dflt (refine' slice_tmp ?slF ?slN ?sll ?slp ?slq ?sli ?slm ?_ ?sls ?slz; (case slF => k_asm); (case slN => k_asm); (case sll => kmk_list); (case slp => kmk_part); (case slq => kmk_part); (case sli => l_ints); (case slm => decide); (case sls => with_unfolding_all rfl); (case slz => kmk_size)); intro D' ws' h' F' N' l1 hI'; (try k_lt l1); (try k_sweep)) | walk1 | ((refine' Hid.use ?hQ ?_); (case hQ => with_reducible assumption); (try dsimp only)) | dsimp only | (leave1; (try dsimp only)) | fail "no step"))
      refine iter_list2 rfl (by assumption) (by assumption) (by k_mem) ?_
      intro I6 St6 h6 F6 N6 hI6 hIt6
      refine comp2_pairs rfl hI6 F6 N6 hIt6 ?fx6 (evUp hp ?up6) (by omega) rfl (by with_unfolding_all rfl) (by with_unfolding_all rfl) ?tn6 ?dn6
      case fx6 =>
        intro p hp6
        rw [List.mem_singleton.mp hp6]
        k_mem
      case up6 => tb_start
      case tn6 =>
        intro led6 h6 tk6 mC6 E6 C6 oC6 e6 rows6 hEX F6 N6 hNs6 hG6
        (try dsimp only at hG6)
        repeat' (first | (fail_if_success (with_reducible show wpAny _ _ (call (Value.ref 283) _ _) _ _ _)); first | ((with_reducible show wpAny _ _ _ _ _ (Shared.mk _ _ _ (_ + 1 + 1) _)); (refine forgetT ?_); (intro tk9); (try dsimp only)) | ((with_reducible show wpAny _ _ (PySem.exec _ _) _ _ _); ((fail_if_success (refine' hidden_test ?hQ ?_; (case hQ => with_reducible assumption))); (refine' hideQ ?_); (intro Q9 hQ9))) | (k_unfold; (try dsimp only)) | (k_end; w_end; exact absurd (rfl : (_ : Int) = _) (by with_reducible assumption)) | (k_end; w_end; (show GoodW _ _ _ _ _ (.ok (.ret (.bool _))) _); refine goodW_bool (by assumption) (by assumption) (raisesW_false ?_) ?_; (· wrow_none_raised); (· exact postT _)) | (k_end; wrow_close) | ((with_reducible show wpAny _ _ (call _ _ _) _ _ _); (first | with_reducible (k_here; (with_reducible show wpAny _ _ (call (Value.builtin "len") [Value.ref _]) _ _ _); k_dflt (refine' len_led ?lN ?lm ?ll ?lc ?_; (case lN => k_asm); (case lm => k_mem); (case ll => exact Paired.length (by assumption)); (case lc => omega))) | with_reducible (k_here; (with_reducible show wpAny _ _ (call (Value.ref 219) [Value.ref _, _, Value.ref _] _) _ _ _); k_dflt (refine' PDoes.use ?k1 ?k2 ?k3 ?k4 ?k5 ?k6 ?k7 (chkStarP ?h0) ?kd ?ku ?_; (case k1 => k_asm); (case k2 => k_asm); (case k3 => k_asm); (case k4 => k_asm); (case k5 => k_asm); (case k6 => first | exact rfl | assumption); (case k7 => first | exact rfl | assumption); (case h0 => k_mem); (case kd => decide); (case ku => decide)); (intro r' tl' h' tk' F' N' hab' hP'); (obtain ⟨e1', e2'⟩ := hP'); (subst e1'); (subst e2'); (try simp only [List.nil_append, List.cons_append, List.append_nil, List.append_assoc] at N'); (try k_sweep); (try dsimp only); (try k_fold)) | with_reducible (k_here; (with_reducible show wpAny _ _ (call (Value.ref 283) [_] _) _ _ _); k_dflt (refine' LDoes.use ?k1 ?k2 ?k3 ?k4 ?k5 ?k6 ?k7 (ExRowsC.use exRows1 ?h0) ?kd ?ku ?_; (case k1 => k_asm); (case k2 => k_asm); (case k3 => k_asm); (case k4 => k_asm); (case k5 => k_asm); (case k6 => first | exact rfl | assumption); (case k7 => first | exact rfl | assumption); (case h0 => first | assumption | exact ExIn.up (by assumption) (by tb_start)); (case kd => first | decide | ((try dsimp only [Around.deeper]); omega)); (case ku => first | decide | ((try dsimp only [Around.deeper]); omega))); (intro a' vs' n' tl' h' tk' F' N' hl' ho1' ho2' hab' hr'); (have hlen' := Paired.length hr'); (try simp only [List.nil_append, List.cons_append, List.append_nil, List.append_assoc] at N'); (try k_sweep); (try dsimp only); (try k_fold)) | with_reducible (k_here; (with_reducible show wpAny _ _ (call (Value.ref 304) _ _) _ _ _); k_dflt (refine' PDoes.useA ?k1 ?k2 ?k3 ?k4 ?k5 ?k6 ?k7 tables0 ?kd ?ku ?_; (case k1 => k_asm); (case k2 => k_asm); (case k3 => k_asm); (case k4 => k_asm); (case k5 => k_asm); (case k6 => first | exact rfl | assumption); (case k7 => first | exact rfl | assumption); (case kd => first | decide | ((try dsimp only [Around.deeper]); omega)); (case ku => first | decide | ((try dsimp only [Around.deeper]); omega))); (intro tv' tlt' h' tk' F' N' habt' hT'); (try simp only [List.nil_append, List.cons_append, List.append_nil, List.append_assoc] at N'); (try k_sweep); (try dsimp only); (try k_fold)) | with_reducible (k_here; (with_reducible show wpAny _ _ (call (Value.type _) [Value.ref _]) _ _ _); k_dflt (refine' tuple_led ?k1 ?k2 ?k3 ?k4 ?_; (case k1 => k_asm); (case k2 => k_asm); (case k3 => k_mem); (case k4 => omega)); intro D' h' F' N' l1; (try k_lt l1); (try k_sweep)) | with_reducible (k_here; (with_reducible show wpAny _ _ (call (Value.ref 266) [Value.ref _, Value.int _ _] _) _ _ _); k_dflt (refine' MDoes.use ?k1 ?k2 ?k3 ?k4 ?k5 ?k6 ?k7 ?kP (expr1 ?h0 ?h1) ?kJ ?kO ?kd ?ku ?_; (case k1 => k_asm); (case k2 => k_asm); (case k3 => k_asm); (case k4 => k_asm); (case k5 => k_asm); (case k6 => first | exact rfl | assumption); (case k7 => first | exact rfl | assumption); (case kP => repeat (first | exact Pick.head | apply Pick.tail)); (case kJ => assumption); (case h0 => tb_start); (case h1 => omega); (case kO => k_all); (case kd => first | decide | ((try dsimp only [Around.deeper]); omega)); (case ku => first | decide | ((try dsimp only [Around.deeper]); omega))); (intro r' o' tl' h' tk' F' N' hf' ho' hP'); (obtain ⟨J', rws', hE'⟩ := hP'); (try simp only [List.nil_append, List.cons_append, List.append_nil, List.append_assoc] at N'); (try k_sweep); (try dsimp only); (try k_fold)) | with_reducible (k_here; (with_reducible show wpAny _ _ (call (Value.ref 311) [_, Value.bool _] _) _ _ _); k_dflt (refine' PDoes.useA ?k1 ?k2 ?k3 ?k4 ?k5 ?k6 ?k7 (checked0 ?h0) ?kd ?ku ?_; (case k1 => k_asm); (case k2 => k_asm); (case k3 => k_asm); (case k4 => k_asm); (case k5 => k_asm); (case k6 => first | exact rfl | assumption); (case k7 => first | exact rfl | assumption); (case h0 => first | assumption | exact CaseIn.up (by assumption) (by tb_start)); (case kd => (try dsimp only [Around.deeper]); first | decide | omega); (case ku => (try dsimp only [Around.deeper]); first | decide | omega)); (intro r' tlc' h' tk' F' N' habc' hP'); (subst hP'); (try simp only [List.nil_append, List.cons_append, List.append_nil, List.append_assoc] at N'); (try k_sweep); (try dsimp only); (try k_fold)) | with_reducible (k_here; (with_reducible show wpAny _ _ (call (Value.ref 247) [Value.ref _, Value.int _ _] _) _ _ _); k_dflt (refine' MDoes.use ?k1 ?k2 ?k3 ?k4 ?k5 ?k6 ?k7 ?kP (draw ?h0 ?h1 ?h2 ?h3) ?kJ ?kO ?kd ?ku ?_; (case k1 => k_asm); (case k2 => k_asm); (case k3 => k_asm); (case k4 => k_asm); (case k5 => k_asm); (case k6 => first | exact rfl | assumption); (case k7 => first | exact rfl | assumption); (case kP => repeat (first | exact Pick.head | apply Pick.tail)); (case kJ => assumption); (case h0 => tb_start); (case h1 => omega); (case h2 => omega); (case h3 => omega); (case kO => k_all); (case kd => first | decide | ((try dsimp only [Around.deeper]); omega)); (case ku => first | decide | ((try dsimp only [Around.deeper]); omega))); (intro r' o' tl' h' tk' F' N' hf' ho' hP'); (obtain ⟨e1', J', i', t', e2', hlo', hhi'⟩ := hP'); (subst e1'); (subst e2'); (try simp only [List.nil_append, List.cons_append, List.append_nil, List.append_assoc] at N'); (try k_sweep); (try dsimp only); (try k_fold)))) | with_reducible (k_here; (with_reducible show wpAny _ _ (compareOp CmpOp.NotEq (Value.ref _) (Value.ref _)) _ _ _); k_dflt (refine' ne_rows ?zN ?za ?zb ?zr ?zs ?zl ?zu ?_; (case zN => k_asm); (case za => k_mem); (case zb => k_mem); (case zr => exact rowsUp (by assumption) (by tb_start)); (case zs => exact rowsUp (by assumption) (by tb_start)); (case zl => assumption); (case zu => exact Nat.le_of_ble_eq_true rfl))) | ((with_reducible show wpAny _ _ (PySem.eval (PySem.Expr.ListComp _ _ _ _) _) _ _ _); (k_here; refine' comp2_led ?kh ?c1 ?c2 ?c3 ?c4 ?c5 ?cn ?_ ?c6 ?c7; (case kh => k_asm); (case c1 => with_unfolding_all rfl); (case c2 => decide); (case c3 => with_unfolding_all rfl); (case c4 => decide); (case c5 => with_unfolding_all rfl); (case cn => decide); (case c6 => intro _; with_unfolding_all rfl); (case c7 => intro _ _; with_unfolding_all rfl))) | with_reducible ((with_reducible show wpAny _ _ (PySem.exec (PySem.Stmt.Assign _ (PySem.Expr.ListComp _ _ _ _) _) _) _ _ _); (k_here; k_dflt (refine' assign_led ?kF9 ?kL9 ?sw9 ?cl9 ?ce9 ?ki9 ?nm9 ?hx9 ?hy9 ?hp9 ?_ ?fs9; (case kF9 => k_asm); (case kL9 => exact rfl); (case sw9 => with_unfolding_all rfl); (case cl9 => with_unfolding_all rfl); (case ce9 => decide); (case ki9 => with_unfolding_all rfl); (case nm9 => decide); (case hx9 => with_unfolding_all rfl); (case hy9 => with_unfolding_all rfl); (case hp9 => with_unfolding_all rfl); (case fs9 => intro _; with_unfolding_all rfl)))) | with_reducible (k_here; (with_reducible show wpAny _ _ (subscriptTail (PySem.Expr.List _ _) _ (Value.ref _) (Value.int _ _)) _ _ _); k_dflt (refine' menu3 ?mN ?mm ?m0 ?m1 ?_ ?ms; (case mN => k_asm); (case mm => k_mem); (case m0 => omega); (case m1 => omega); (case ms => with_unfolding_all rfl)); intro xk' tx') | with_reducible (k_here; (with_reducible show wpAny _ _ (subscriptTail _ (PySem.Expr.Slice _ _ none _) (Value.ref _) (Value.ref _)) _ _ _); k_dflt (refine' slice_tmp ?slF ?slN ?sll ?slp ?slq ?sli ?slm ?_ ?sls ?slz; (case slF => k_asm); (case slN => k_asm); (case sll => kmk_list); (case slp => kmk_part); (case slq => kmk_part); (case sli => l_ints); (case slm => decide); (case sls => with_unfolding_all rfl); (case slz => kmk_size)); intro D' ws' h' F' N' l1 hI'; (try k_lt l1); (try k_sweep)) | walk1 | ((refine' Hid.use ?hQ ?_); (case hQ => with_reducible assumption); (try dsimp only)) | dsimp only | (leave1; try dsimp only at *) | fail "no step")
        k_here
        k_dflt (refine' LDoes.use ?k1 ?k2 ?k3 ?k4 ?kv ?k6 ?k7 (ExRowsC.use exRows1 ?h0) ?kd ?ku ?_; (case k1 => k_asm); (case k2 => k_asm); (case k3 => k_asm); (case k4 => k_asm); (case kv => k_asm); (case k6 => first | exact rfl | assumption); (case k7 => first | exact rfl | assumption); (case h0 => exact hEX); (case kd => decide); (case ku => decide))
        intro a' vs' n' tl' h' tk' F' N' hl' ho1' ho2' hab' hr'
        exact RowsTurn.intro F' N' (.head _) (fun _ h => .tail _ h) hl' hab' hr'
      case dn6 =>
        intro D6 k6 ys6 tl6 h6 tk6 hr6 hl6 ho6 hab6 F6 N6
        simp only [List.cons_append, List.append_assoc] at N6
        repeat' (first | (fail_if_success (with_reducible show wpAny _ _ (call (Value.ref 311) _ _) _ _ _)); first | ((with_reducible show wpAny _ _ _ _ _ (Shared.mk _ _ _ (_ + 1 + 1) _)); (refine forgetT ?_); (intro tk9); (try dsimp only)) | ((with_reducible show wpAny _ _ (PySem.exec _ _) _ _ _); ((fail_if_success (refine' hidden_test ?hQ ?_; (case hQ => with_reducible assumption))); (refine' hideQ ?_); (intro Q9 hQ9))) | (k_unfold; (try dsimp only)) | (k_end; w_end; exact absurd (rfl : (_ : Int) = _) (by with_reducible assumption)) | (k_end; w_end; (show GoodW _ _ _ _ _ (.ok (.ret (.bool _))) _); refine goodW_bool (by assumption) (by assumption) (raisesW_false ?_) ?_; (· wrow_none_raised); (· exact postT _)) | (k_end; wrow_close) | ((with_reducible show wpAny _ _ (call _ _ _) _ _ _); (first | with_reducible (k_here; (with_reducible show wpAny _ _ (call (Value.builtin "len") [Value.ref _]) _ _ _); k_dflt (refine' len_led ?lN ?lm ?ll ?lc ?_; (case lN => k_asm); (case lm => k_mem); (case ll => exact Paired.length (by assumption)); (case lc => omega))) | with_reducible (k_here; (with_reducible show wpAny _ _ (call (Value.ref 219) [Value.ref _, _, Value.ref _] _) _ _ _); k_dflt (refine' PDoes.use ?k1 ?k2 ?k3 ?k4 ?k5 ?k6 ?k7 (chkStarP ?h0) ?kd ?ku ?_; (case k1 => k_asm); (case k2 => k_asm); (case k3 => k_asm); (case k4 => k_asm); (case k5 => k_asm); (case k6 => first | exact rfl | assumption); (case k7 => first | exact rfl | assumption); (case h0 => k_mem); (case kd => decide); (case ku => decide)); (intro r' tl' h' tk' F' N' hab' hP'); (obtain ⟨e1', e2'⟩ := hP'); (subst e1'); (subst e2'); (try simp only [List.nil_append, List.cons_append, List.append_nil, List.append_assoc] at N'); (try k_sweep); (try dsimp only); (try k_fold)) | with_reducible (k_here; (with_reducible show wpAny _ _ (call (Value.ref 283) [_] _) _ _ _); k_dflt (refine' LDoes.use ?k1 ?k2 ?k3 ?k4 ?k5 ?k6 ?k7 (ExRowsC.use exRows1 ?h0) ?kd ?ku ?_; (case k1 => k_asm); (case k2 => k_asm); (case k3 => k_asm); (case k4 => k_asm); (case k5 => k_asm); (case k6 => first | exact rfl | assumption); (case k7 => first | exact rfl | assumption); (case h0 => first | assumption | exact ExIn.up (by assumption) (by tb_start)); (case kd => first | decide | ((try dsimp only [Around.deeper]); omega)); (case ku => first | decide | ((try dsimp only [Around.deeper]); omega))); (intro a' vs' n' tl' h' tk' F' N' hl' ho1' ho2' hab' hr'); (have hlen' := Paired.length hr'); (try simp only [List.nil_append, List.cons_append, List.append_nil, List.append_assoc] at N'); (try k_sweep); (try dsimp only); (try k_fold)) | with_reducible (k_here; (with_reducible show wpAny _ _ (call (Value.ref 304) _ _) _ _ _); k_dflt (refine' PDoes.useA ?k1 ?k2 ?k3 ?k4 ?k5 ?k6 ?k7 tables0 ?kd ?ku ?_; (case k1 => k_asm); (case k2 => k_asm); (case k3 => k_asm); (case k4 => k_asm); (case k5 => k_asm); (case k6 => first | exact rfl | assumption); (case k7 => first | exact rfl | assumption); (case kd => first | decide | ((try dsimp only [Around.deeper]); omega)); (case ku => first | decide | ((try dsimp only [Around.deeper]); omega))); (intro tv' tlt' h' tk' F' N' habt' hT'); (try simp only [List.nil_append, List.cons_append, List.append_nil, List.append_assoc] at N'); (try k_sweep); (try dsimp only); (try k_fold)) | with_reducible (k_here; (with_reducible show wpAny _ _ (call (Value.type _) [Value.ref _]) _ _ _); k_dflt (refine' tuple_led ?k1 ?k2 ?k3 ?k4 ?_; (case k1 => k_asm); (case k2 => k_asm); (case k3 => k_mem); (case k4 => omega)); intro D' h' F' N' l1; (try k_lt l1); (try k_sweep)) | with_reducible (k_here; (with_reducible show wpAny _ _ (call (Value.ref 266) [Value.ref _, Value.int _ _] _) _ _ _); k_dflt (refine' MDoes.use ?k1 ?k2 ?k3 ?k4 ?k5 ?k6 ?k7 ?kP (expr1 ?h0 ?h1) ?kJ ?kO ?kd ?ku ?_; (case k1 => k_asm); (case k2 => k_asm); (case k3 => k_asm); (case k4 => k_asm); (case k5 => k_asm); (case k6 => first | exact rfl | assumption); (case k7 => first | exact rfl | assumption); (case kP => repeat (first | exact Pick.head | apply Pick.tail)); (case kJ => assumption); (case h0 => tb_start); (case h1 => omega); (case kO => k_all); (case kd => first | decide | ((try dsimp only [Around.deeper]); omega)); (case ku => first | decide | ((try dsimp only [Around.deeper]); omega))); (intro r' o' tl' h' tk' F' N' hf' ho' hP'); (obtain ⟨J', rws', hE'⟩ := hP'); (try simp only [List.nil_append, List.cons_append, List.append_nil, List.append_assoc] at N'); (try k_sweep); (try dsimp only); (try k_fold)) | with_reducible (k_here; (with_reducible show wpAny _ _ (call (Value.ref 311) [_, Value.bool _] _) _ _ _); k_dflt (refine' PDoes.useA ?k1 ?k2 ?k3 ?k4 ?k5 ?k6 ?k7 (checked0 ?h0) ?kd ?ku ?_; (case k1 => k_asm); (case k2 => k_asm); (case k3 => k_asm); (case k4 => k_asm); (case k5 => k_asm); (case k6 => first | exact rfl | assumption); (case k7 => first | exact rfl | assumption); (case h0 => first | assumption | exact CaseIn.up (by assumption) (by tb_start)); (case kd => (try dsimp only [Around.deeper]); first | decide | omega); (case ku => (try dsimp only [Around.deeper]); first | decide | omega)); (intro r' tlc' h' tk' F' N' habc' hP'); (subst hP'); (try simp only [List.nil_append, List.cons_append, List.append_nil, List.append_assoc] at N'); (try k_sweep); (try dsimp only); (try k_fold)) | with_reducible (k_here; (with_reducible show wpAny _ _ (call (Value.ref 247) [Value.ref _, Value.int _ _] _) _ _ _); k_dflt (refine' MDoes.use ?k1 ?k2 ?k3 ?k4 ?k5 ?k6 ?k7 ?kP (draw ?h0 ?h1 ?h2 ?h3) ?kJ ?kO ?kd ?ku ?_; (case k1 => k_asm); (case k2 => k_asm); (case k3 => k_asm); (case k4 => k_asm); (case k5 => k_asm); (case k6 => first | exact rfl | assumption); (case k7 => first | exact rfl | assumption); (case kP => repeat (first | exact Pick.head | apply Pick.tail)); (case kJ => assumption); (case h0 => tb_start); (case h1 => omega); (case h2 => omega); (case h3 => omega); (case kO => k_all); (case kd => first | decide | ((try dsimp only [Around.deeper]); omega)); (case ku => first | decide | ((try dsimp only [Around.deeper]); omega))); (intro r' o' tl' h' tk' F' N' hf' ho' hP'); (obtain ⟨e1', J', i', t', e2', hlo', hhi'⟩ := hP'); (subst e1'); (subst e2'); (try simp only [List.nil_append, List.cons_append, List.append_nil, List.append_assoc] at N'); (try k_sweep); (try dsimp only); (try k_fold)))) | with_reducible (k_here; (with_reducible show wpAny _ _ (compareOp CmpOp.NotEq (Value.ref _) (Value.ref _)) _ _ _); k_dflt (refine' ne_rows ?zN ?za ?zb ?zr ?zs ?zl ?zu ?_; (case zN => k_asm); (case za => k_mem); (case zb => k_mem); (case zr => exact rowsUp (by assumption) (by tb_start)); (case zs => exact rowsUp (by assumption) (by tb_start)); (case zl => assumption); (case zu => exact Nat.le_of_ble_eq_true rfl))) | ((with_reducible show wpAny _ _ (PySem.eval (PySem.Expr.ListComp _ _ _ _) _) _ _ _); (k_here; refine' comp2_led ?kh ?c1 ?c2 ?c3 ?c4 ?c5 ?cn ?_ ?c6 ?c7; (case kh => k_asm); (case c1 => with_unfolding_all rfl); (case c2 => decide); (case c3 => with_unfolding_all rfl); (case c4 => decide); (case c5 => with_unfolding_all rfl); (case cn => decide); (case c6 => intro _; with_unfolding_all rfl); (case c7 => intro _ _; with_unfolding_all rfl))) | with_reducible ((with_reducible show wpAny _ _ (PySem.exec (PySem.Stmt.Assign _ (PySem.Expr.ListComp _ _ _ _) _) _) _ _ _); (k_here; k_dflt (refine' assign_led ?kF9 ?kL9 ?sw9 ?cl9 ?ce9 ?ki9 ?nm9 ?hx9 ?hy9 ?hp9 ?_ ?fs9; (case kF9 => k_asm); (case kL9 => exact rfl); (case sw9 => with_unfolding_all rfl); (case cl9 => with_unfolding_all rfl); (case ce9 => decide); (case ki9 => with_unfolding_all rfl); (case nm9 => decide); (case hx9 => with_unfolding_all rfl); (case hy9 => with_unfolding_all rfl); (case hp9 => with_unfolding_all rfl); (case fs9 => intro _; with_unfolding_all rfl)))) | with_reducible (k_here; (with_reducible show wpAny _ _ (subscriptTail (PySem.Expr.List _ _) _ (Value.ref _) (Value.int _ _)) _ _ _); k_dflt (refine' menu3 ?mN ?mm ?m0 ?m1 ?_ ?ms; (case mN => k_asm); (case mm => k_mem); (case m0 => omega); (case m1 => omega); (case ms => with_unfolding_all rfl)); intro xk' tx') | with_reducible (k_here; (with_reducible show wpAny _ _ (subscriptTail _ (PySem.Expr.Slice _ _ none _) (Value.ref _) (Value.ref _)) _ _ _); k_dflt (refine' slice_tmp ?slF ?slN ?sll ?slp ?slq ?sli ?slm ?_ ?sls ?slz; (case slF => k_asm); (case slN => k_asm); (case sll => kmk_list); (case slp => kmk_part); (case slq => kmk_part); (case sli => l_ints); (case slm => decide); (case sls => with_unfolding_all rfl); (case slz => kmk_size)); intro D' ws' h' F' N' l1 hI'; (try k_lt l1); (try k_sweep)) | walk1 | ((refine' Hid.use ?hQ ?_); (case hQ => with_reducible assumption); (try dsimp only)) | dsimp only | (leave1; try dsimp only at *) | fail "no step")
        with_reducible rename News _ _ _ _ => N9
        obtain ⟨rows9, hcase9⟩ := lastCase N9
        k_here
        k_dflt (refine' PDoes.useA ?k1 ?k2 ?k3 ?k4 ?kv ?k6 ?k7 (checked0 hcase9) ?kd ?ku ?_; (case k1 => k_asm); (case k2 => k_asm); (case k3 => k_asm); (case k4 => exact N9); (case kv => k_asm); (case k6 => first | exact rfl | assumption); (case k7 => first | exact rfl | assumption); (case kd => decide); (case ku => decide))
        intro r9 tl9 h9 tk9 F9 N10 hab9 hP9
        subst hP9
        (repeat' (first | ((with_reducible show wpAny _ _ _ _ _ (Shared.mk _ _ _ (_ + 1 + 1) _)); (refine forgetT ?_); (intro tk9); (try dsimp only)) | ((with_reducible show wpAny _ _ (PySem.exec _ _) _ _ _); ((fail_if_success (refine' hidden_test ?hQ ?_; (case hQ => with_reducible assumption))); (refine' hideQ ?_); (intro Q9 hQ9))) | (k_unfold; (try dsimp only)) | (k_end; w_end; exact absurd (rfl : (_ : Int) = _) (by with_reducible assumption)) | (k_end; w_end; (show GoodW _ _ _ _ _ (.ok (.ret (.bool _))) _); refine goodW_bool (by assumption) (by assumption) (raisesW_false ?_) ?_; (· wrow_none_raised); (· exact postT _)) | (k_end; wrow_close) | ((with_reducible show wpAny _ _ (call _ _ _) _ _ _); (first | with_reducible (k_here; (with_reducible show wpAny _ _ (call (Value.builtin "len") [Value.ref _]) _ _ _); k_dflt (refine' len_led ?lN ?lm ?ll ?lc ?_; (case lN => k_asm); (case lm => k_mem); (case ll => exact Paired.length (by assumption)); (case lc => omega))) | with_reducible (k_here; (with_reducible show wpAny _ _ (call (Value.ref 219) [Value.ref _, _, Value.ref _] _) _ _ _); k_dflt (refine' PDoes.use ?k1 ?k2 ?k3 ?k4 ?k5 ?k6 ?k7 (chkStarP ?h0) ?kd ?ku ?_; (case k1 => k_asm); (case k2 => k_asm); (case k3 => k_asm); (case k4 => k_asm); (case k5 => k_asm); (case k6 => first | exact rfl | assumption); (case k7 => first | exact rfl | assumption); (case h0 => k_mem); (case kd => decide); (case ku => decide)); (intro r' tl' h' tk' F' N' hab' hP'); (obtain ⟨e1', e2'⟩ := hP'); (subst e1'); (subst e2'); (try simp only [List.nil_append, List.cons_append, List.append_nil, List.append_assoc] at N'); (try k_sweep); (try dsimp only); (try k_fold)) | with_reducible (k_here; (with_reducible show wpAny _ _ (call (Value.ref 283) [_] _) _ _ _); k_dflt (refine' LDoes.use ?k1 ?k2 ?k3 ?k4 ?k5 ?k6 ?k7 (ExRowsC.use exRows1 ?h0) ?kd ?ku ?_; (case k1 => k_asm); (case k2 => k_asm); (case k3 => k_asm); (case k4 => k_asm); (case k5 => k_asm); (case k6 => first | exact rfl | assumption); (case k7 => first | exact rfl | assumption); (case h0 => first | assumption | exact ExIn.up (by assumption) (by tb_start)); (case kd => first | decide | ((try dsimp only [Around.deeper]); omega)); (case ku => first | decide | ((try dsimp only [Around.deeper]); omega))); (intro a' vs' n' tl' h' tk' F' N' hl' ho1' ho2' hab' hr'); (have hlen' := Paired.length hr'); (try simp only [List.nil_append, List.cons_append, List.append_nil, List.append_assoc] at N'); (try k_sweep); (try dsimp only); (try k_fold)) | with_reducible (k_here; (with_reducible show wpAny _ _ (call (Value.ref 304) _ _) _ _ _); k_dflt (refine' PDoes.useA ?k1 ?k2 ?k3 ?k4 ?k5 ?k6 ?k7 tables0 ?kd ?ku ?_; (case k1 => k_asm); (case k2 => k_asm); (case k3 => k_asm); (case k4 => k_asm); (case k5 => k_asm); (case k6 => first | exact rfl | assumption); (case k7 => first | exact rfl | assumption); (case kd => first | decide | ((try dsimp only [Around.deeper]); omega)); (case ku => first | decide | ((try dsimp only [Around.deeper]); omega))); (intro tv' tlt' h' tk' F' N' habt' hT'); (try simp only [List.nil_append, List.cons_append, List.append_nil, List.append_assoc] at N'); (try k_sweep); (try dsimp only); (try k_fold)) | with_reducible (k_here; (with_reducible show wpAny _ _ (call (Value.type _) [Value.ref _]) _ _ _); k_dflt (refine' tuple_led ?k1 ?k2 ?k3 ?k4 ?_; (case k1 => k_asm); (case k2 => k_asm); (case k3 => k_mem); (case k4 => omega)); intro D' h' F' N' l1; (try k_lt l1); (try k_sweep)) | with_reducible (k_here; (with_reducible show wpAny _ _ (call (Value.ref 266) [Value.ref _, Value.int _ _] _) _ _ _); k_dflt (refine' MDoes.use ?k1 ?k2 ?k3 ?k4 ?k5 ?k6 ?k7 ?kP (expr1 ?h0 ?h1) ?kJ ?kO ?kd ?ku ?_; (case k1 => k_asm); (case k2 => k_asm); (case k3 => k_asm); (case k4 => k_asm); (case k5 => k_asm); (case k6 => first | exact rfl | assumption); (case k7 => first | exact rfl | assumption); (case kP => repeat (first | exact Pick.head | apply Pick.tail)); (case kJ => assumption); (case h0 => tb_start); (case h1 => omega); (case kO => k_all); (case kd => first | decide | ((try dsimp only [Around.deeper]); omega)); (case ku => first | decide | ((try dsimp only [Around.deeper]); omega))); (intro r' o' tl' h' tk' F' N' hf' ho' hP'); (obtain ⟨J', rws', hE'⟩ := hP'); (try simp only [List.nil_append, List.cons_append, List.append_nil, List.append_assoc] at N'); (try k_sweep); (try dsimp only); (try k_fold)) | with_reducible (k_here; (with_reducible show wpAny _ _ (call (Value.ref 311) [_, Value.bool _] _) _ _ _); k_dflt (refine' PDoes.useA ?k1 ?k2 ?k3 ?k4 ?k5 ?k6 ?k7 (checked0 ?h0) ?kd ?ku ?_; (case k1 => k_asm); (case k2 => k_asm); (case k3 => k_asm); (case k4 => k_asm); (case k5 => k_asm); (case k6 => first | exact rfl | assumption); (case k7 => first | exact rfl | assumption); (case h0 => first | assumption | exact CaseIn.up (by assumption) (by tb_start)); (case kd => (try dsimp only [Around.deeper]); first | decide | omega); (case ku => (try dsimp only [Around.deeper]); first | decide | omega)); (intro r' tlc' h' tk' F' N' habc' hP'); (subst hP'); (try simp only [List.nil_append, List.cons_append, List.append_nil, List.append_assoc] at N'); (try k_sweep); (try dsimp only); (try k_fold)) | with_reducible (k_here; (with_reducible show wpAny _ _ (call (Value.ref 247) [Value.ref _, Value.int _ _] _) _ _ _); k_dflt (refine' MDoes.use ?k1 ?k2 ?k3 ?k4 ?k5 ?k6 ?k7 ?kP (draw ?h0 ?h1 ?h2 ?h3) ?kJ ?kO ?kd ?ku ?_; (case k1 => k_asm); (case k2 => k_asm); (case k3 => k_asm); (case k4 => k_asm); (case k5 => k_asm); (case k6 => first | exact rfl | assumption); (case k7 => first | exact rfl | assumption); (case kP => repeat (first | exact Pick.head | apply Pick.tail)); (case kJ => assumption); (case h0 => tb_start); (case h1 => omega); (case h2 => omega); (case h3 => omega); (case kO => k_all); (case kd => first | decide | ((try dsimp only [Around.deeper]); omega)); (case ku => first | decide | ((try dsimp only [Around.deeper]); omega))); (intro r' o' tl' h' tk' F' N' hf' ho' hP'); (obtain ⟨e1', J', i', t', e2', hlo', hhi'⟩ := hP'); (subst e1'); (subst e2'); (try simp only [List.nil_append, List.cons_append, List.append_nil, List.append_assoc] at N'); (try k_sweep); (try dsimp only); (try k_fold)))) | with_reducible (k_here; (with_reducible show wpAny _ _ (compareOp CmpOp.NotEq (Value.ref _) (Value.ref _)) _ _ _); k_dflt (refine' ne_rows ?zN ?za ?zb ?zr ?zs ?zl ?zu ?_; (case zN => k_asm); (case za => k_mem); (case zb => k_mem); (case zr => exact rowsUp (by assumption) (by tb_start)); (case zs => exact rowsUp (by assumption) (by tb_start)); (case zl => assumption); (case zu => exact Nat.le_of_ble_eq_true rfl))) | ((with_reducible show wpAny _ _ (PySem.eval (PySem.Expr.ListComp _ _ _ _) _) _ _ _); (k_here; refine' comp2_led ?kh ?c1 ?c2 ?c3 ?c4 ?c5 ?cn ?_ ?c6 ?c7; (case kh => k_asm); (case c1 => with_unfolding_all rfl); (case c2 => decide); (case c3 => with_unfolding_all rfl); (case c4 => decide); (case c5 => with_unfolding_all rfl); (case cn => decide); (case c6 => intro _; with_unfolding_all rfl); (case c7 => intro _ _; with_unfolding_all rfl))) | with_reducible ((with_reducible show wpAny _ _ (PySem.exec (PySem.Stmt.Assign _ (PySem.Expr.ListComp _ _ _ _) _) _) _ _ _); (k_here; k_dflt (refine' assign_led ?kF9 ?kL9 ?sw9 ?cl9 ?ce9 ?ki9 ?nm9 ?hx9 ?hy9 ?hp9 ?_ ?fs9; (case kF9 => k_asm); (case kL9 => exact rfl); (case sw9 => with_unfolding_all rfl); (case cl9 => with_unfolding_all rfl); (case ce9 => decide); (case ki9 => with_unfolding_all rfl); (case nm9 => decide); (case hx9 => with_unfolding_all rfl); (case hy9 => with_unfolding_all rfl); (case hp9 => with_unfolding_all rfl); (case fs9 => intro _; with_unfolding_all rfl)))) | with_reducible (k_here; (with_reducible show wpAny _ _ (subscriptTail (PySem.Expr.List _ _) _ (Value.ref _) (Value.int _ _)) _ _ _); k_dflt (refine' menu3 ?mN ?mm ?m0 ?m1 ?_ ?ms; (case mN => k_asm); (case mm => k_mem); (case m0 => omega); (case m1 => omega); (case ms => with_unfolding_all rfl)); intro xk' tx') | with_reducible (k_here; (with_reducible show wpAny _ _ (subscriptTail _ (PySem.Expr.Slice _ _ none _) (Value.ref _) (Value.ref _)) _ _ _); k_dflt (refine' slice_tmp ?slF ?slN ?sll ?slp ?slq ?sli ?slm ?_ ?sls ?slz; (case slF => k_asm); (case slN => k_asm); (case sll => kmk_list); (case slp => kmk_part); (case slq => kmk_part); (case sli => l_ints); (case slm => decide); (case sls => with_unfolding_all rfl); (case slz => kmk_size)); intro D' ws' h' F' N' l1 hI'; (try k_lt l1); (try k_sweep)) | walk1 | ((refine' Hid.use ?hQ ?_); (case hQ => with_reducible assumption); (try dsimp only)) | dsimp only | (leave1; (try dsimp only)) | fail "no step"))
)
end
end Mine

theorem PySem.Challenge.cw_on0122_01_holds : PySem.Challenge.rw_on0122_01.Holds := by
  exact Mine.lawHolds
