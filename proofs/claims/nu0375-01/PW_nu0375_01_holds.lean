import PyProof.Rows.All
import Wide.All
import OpenK.AllK
import Wide.FinOn
import Lean
import PySem.Challenge.RW_nu0375_01
open PySem PySem.W PyProof.Rows
set_option Elab.async false
namespace Mine
section
open PySem PySem.W PyProof.Rows
section
local macro_rules | `(tactic| o_head $H:term) => `(tactic| (have _ := $H; assumption))
/-- says nothing: its proof lays the written part of the heap, kf.heap_1 -/
theorem kf (h : PySem.Challenge.rw_nu0375_01.row.Holds) : PySem.Challenge.rw_nu0375_01.row.Holds := by k_head
end
abbrev P0 : Program := PySem.Challenge.rw_nu0375_01.row.toRowW.prog
/-- the text less its three stores of a module's name -/
def vw : Program := view P0 [1, 2, 4, 5, 6, 7, 8, 9, 10, 11, 12, 13, 14, 15, 16, 17, 19, 20, 21, 22, 23, 24, 25, 26, 27, 28, 29, 30, 31, 32]
/-- the opening's eleven objects as a tree -/
noncomputable def bootT (P : Params) : BT :=
  .node (boot_o_0 P)
    (.node (boot_o_1 P) (.node (boot_o_3 P) (.node (boot_o_7 P) .nil .nil) .nil) (.node (boot_o_5 P) (.node (boot_o_9 P) .nil .nil) .nil))
    (.node (boot_o_2 P) (.node (boot_o_4 P) (.node (boot_o_8 P) .nil .nil) .nil) (.node (boot_o_6 P) (.node (boot_o_10 P) .nil .nil) .nil))
noncomputable def T0 (w : World) (os : OsState) : SharedT := ⟨bootT w.params, 11, (boot_heap w.params).life, Array.mk [], boot_drawn, boot_toks, os⟩
theorem abs0 : ∀ (w : World) (os : OsState), (T0 w os).abs = ⟨boot_heap w.params, Array.mk [], boot_drawn, boot_toks, os⟩ := by
  intro w os; kernel_rfl
theorem size0 : ∀ w : World, (((boot_heap w.params).isNs mainGlobals && (Array.mk [] : Array GenState).size == 0), (boot_heap w.params).objs.size, (boot_heap w.params).nsMap mainGlobals "__annotations__") = (true, 11, some (.ref 6)) := by
  intro w; kernel_rfl
/-- the top's run over a tree of objects -/
def runG (ok : Thread → Bool) (st : SharedT → Thread → Option (SharedT × Thread)) : Nat → SharedT → Thread → Option SharedT
  | 0, _, _ => none
  | n + 1, s, t => match through t with
    | true => some s
    | false => match ok t with
      | false => none
      | true => match st s t with
        | some (s', t') => runG ok st n s' t'
        | none => none
theorem run_of {tb : String → Option Builtin} {p : Program} {w : World} {n₀ : Nat} {ann : Option Value} : ∀ {n : Nat} {s r : SharedT} {t : Thread},
    runG (stepOk n₀ ann) (stepT (denote tb) p w) n s t = some r → topRun tb p w n₀ ann n s.abs t = some r.abs
  | 0, _, _, _, h => by simp [runG] at h
  | n + 1, s, r, t, h => by
    unfold runG at h
    unfold topRun
    cases ht : through t with
    | true => rw [ht] at h; cases h; rfl
    | false =>
      rw [ht] at h
      cases hk : stepOk n₀ ann t with
      | false => rw [hk] at h; cases h
      | true =>
        rw [hk] at h
        cases hs : stepT (denote tb) p w s t with
        | none => rw [hs] at h; cases h
        | some x =>
          obtain ⟨s', t'⟩ := x
          rw [hs] at h
          rw [stepT_spec hs]
          exact run_of h
/-- the same run by the library's quick twins of its functions -/
noncomputable def runQ (p : Program) (w : World) (os : OsState) : Option SharedT :=
  runG (PySem.W.Fast.tw6613529449190102663 11 (some (.ref 6))) (PySem.W.Fast.tw10156331382660048174 (PySem.W.Fast.tw11892475500146522536 PySem.W.Fast.tw14364793385576792824) p w) 3060 (T0 w os) (topStub p)
theorem runQ_eq (p : Program) (w : World) (os : OsState) : runQ p w os = runG (stepOk 11 (some (.ref 6))) (stepT (denote treeTable) p w) 3060 (T0 w os) (topStub p) := by
  unfold runQ
  rw [← PySem.W.Fast.te6613529449190102663, ← PySem.W.Fast.te10156331382660048174, ← PySem.W.Fast.te11892475500146522536, ← PySem.W.Fast.te14364793385576792824]
theorem left_tree {p q : Program} {loose : List Str} {Xt : Shared → Bool} {α : Type} {Yf : Shared → α} {Ya : World → α}
    (e : opening p = plainProg p.main.scope.names) (f : ∀ s, fenceModules? p s = some s)
    (h : ∀ w : World, (fun os : OsState => (runQ p w os).map (fun s => ((staticsOk (importedModules p.main.body) (boot_heap w.params) s.abs.heap && namesBound p s.abs.heap && gensDone s.abs && laidKept (boot_heap w.params) s.abs.heap), PySem.W.Fast.tw4187177175401517315 q loose (importedModules p.main.body) Xt true s.abs, Yf s.abs))) = fun _ => some (true, openGood q loose, Ya w)) :
    LeftO p q loose Xt Yf Ya 3060 := fun w => by
  obtain ⟨⟨h0, gs, d, k, os⟩, e0, e1⟩ := Option.map_eq_some_iff.mp (boot_open (N := 3060) e (by decide) f w)
  obtain ⟨rfl, rfl, rfl, rfl⟩ : h0 = boot_heap w.params ∧ gs = Array.mk [] ∧ d = boot_drawn ∧ k = boot_toks := by simpa using e1
  obtain ⟨r, hr, hv⟩ := Option.map_eq_some_iff.mp (congrFun (h w) os)
  rw [runQ_eq] at hr
  have R := run_of hr
  rw [abs0] at R
  obtain ⟨l1, l2, l3⟩ : _ ∧ _ ∧ _ := by simpa only [Prod.mk.injEq] using hv
  obtain ⟨z1, z2, z3⟩ : _ ∧ _ ∧ _ := by simpa only [Prod.mk.injEq] using size0 w
  have t : topFrom treeTable p w 3060 ⟨boot_heap w.params, Array.mk [], boot_drawn, boot_toks, os⟩ = some r.abs := by
    unfold topFrom
    dsimp only
    rw [z1, z2, z3, R]
    show (match staticsOk (importedModules p.main.body) (boot_heap w.params) r.abs.heap && namesBound p r.abs.heap && gensDone r.abs && laidKept (boot_heap w.params) r.abs.heap with | true => _ | false => _) = _
    rw [l1]
  unfold openEnds
  rw [e0]
  show (topFrom treeTable p w 3060 _).map _ = _
  rw [t]
  rw [← PySem.W.Fast.te4187177175401517315] at l2
  exact congrArg some (Prod.ext l2 l3)

/-- the addresses of the written part -/
def ads : List Addr := [2, 3, 15, 22, 23, 25, 26, 28, 29, 30, 31, 32, 33, 36, 43, 44, 45, 48, 49, 51, 52, 54, 55, 56, 58, 59, 61, 62, 63, 65, 66, 68, 69, 70, 72, 73, 75, 76, 77, 79, 80, 82, 83, 84, 86, 87, 89, 90, 91, 93, 94, 96, 97, 98, 100, 101, 103, 104, 105, 107, 108, 110, 111, 112, 114, 115, 117, 118, 119, 121, 122, 124, 125, 126, 128, 129, 131, 132, 133, 135, 136, 138, 139, 140, 142, 143, 145, 146, 147, 149, 150, 152, 153, 154, 156, 157, 159, 160, 161, 163, 164, 166, 167, 168, 170, 171, 173, 174, 175, 177, 178, 180, 181, 182, 184, 185, 187, 188, 189, 191, 192, 194, 195, 196, 198, 199, 201, 202, 203, 205, 206, 208, 209, 210, 213, 214, 215, 217, 218, 220, 221, 222, 224, 225, 227, 228, 229, 231, 232, 234, 235]
theorem ads_of : ∀ P, ads = (kf.heap_1 P).map (·.1) := by intro P; kernel_rfl
abbrev looseV : List Str := [Str.ofString "LendError", Str.ofString "BITS"]
abbrev XtV : Shared → Bool := fun s => xlAt vw [] s && recOk (RowW.records PySem.Challenge.rw_nu0375_01.row.toRowW) s
theorem opens0 : opening P0 = plainProg P0.main.scope.names := by kernel_rfl
theorem fence0 : ∀ s, fenceModules? P0 s = some s := by intro s; kernel_rfl
theorem seen0 : ∀ w : World, (fun os : OsState => (runQ P0 (w.withFollow "special-get-raises" false) os).map (fun s => ((staticsOk (importedModules P0.main.body) (boot_heap w.params) s.abs.heap && namesBound P0 s.abs.heap && gensDone s.abs && laidKept (boot_heap w.params) s.abs.heap), PySem.W.Fast.tw4187177175401517315 vw looseV (importedModules P0.main.body) XtV true s.abs, (Hook.obs (kHook kf.heap_1 ads ads_of)) s.abs))) = fun _ => some (true, openGood vw looseV, Hook.val (kHook kf.heap_1 ads ads_of) (w.withFollow "special-get-raises" false)) := by
  intro w; kernel_rfl
theorem seen1 : ∀ w : World, (fun os : OsState => (runQ P0 (w.withFollow "special-get-raises" true) os).map (fun s => ((staticsOk (importedModules P0.main.body) (boot_heap w.params) s.abs.heap && namesBound P0 s.abs.heap && gensDone s.abs && laidKept (boot_heap w.params) s.abs.heap), PySem.W.Fast.tw4187177175401517315 vw looseV (importedModules P0.main.body) XtV true s.abs, (Hook.obs (kHook kf.heap_1 ads ads_of)) s.abs))) = fun _ => some (true, openGood vw looseV, Hook.val (kHook kf.heap_1 ads ads_of) (w.withFollow "special-get-raises" true)) := by
  intro w; kernel_rfl
theorem left0 : LeftO P0 vw looseV XtV (Hook.obs (kHook kf.heap_1 ads ads_of)) (Hook.val (kHook kf.heap_1 ads ads_of)) 3060 :=
  left_tree opens0 fence0 (fun w => byRow2 (P := fun w => (fun os : OsState => (runQ P0 w os).map (fun s => ((staticsOk (importedModules P0.main.body) (boot_heap w.params) s.abs.heap && namesBound P0 s.abs.heap && gensDone s.abs && laidKept (boot_heap w.params) s.abs.heap), PySem.W.Fast.tw4187177175401517315 vw looseV (importedModules P0.main.body) XtV true s.abs, (Hook.obs (kHook kf.heap_1 ads ads_of)) s.abs))) = fun _ => some (true, openGood vw looseV, Hook.val (kHook kf.heap_1 ads ads_of) w)) "special-get-raises" seen0 seen1 w)
section
local macro_rules | `(tactic| k_head) => `(tactic| refine PySem.W.holds_open (q := vw) (loose := [Str.ofString "LendError", Str.ofString "BITS"]) (Xt := XtV) (XP := XL vw []) (Yf := Hook.obs (kHook kf.heap_1 ads ads_of)) (Ya := Hook.val (kHook kf.heap_1 ads ads_of)) (YP := Hook.says (kHook kf.heap_1 ads ads_of)) (N := 3060) left0 (Hook.of _) (Hook.keeps _) (fun s e => xl_of s (Bool.and_eq_true_iff.mp e).1) XL.keeps (by rfl) (by rfl) (by rfl) (fun s e => recFacts_of (Bool.and_eq_true_iff.mp e).2) (by rfl) (by first | assumption | decide +kernel) (by decide +kernel) ⟨rfl, rfl, rfl, rfl, rfl, by decide +kernel⟩ ?hw ?hc)
set_option maxRecDepth 100000 in
set_option maxHeartbeats 8000000 in
open_top hd for PySem.Challenge.rw_nu0375_01
end
end
local macro_rules | `(tactic| walk_at $s:str) => `(tactic| k_extra $s)
section
theorem tdiv_abs (a b : Int) (_hb : b ≠ 0) (h : (decide (a < 0) == decide (b < 0)) = true) : (if a < 0 then -a else a).fdiv (if b < 0 then -b else b) = a.tdiv b := by
  have h' : (a < 0) ↔ (b < 0) := by simpa using h
  by_cases ha : a < 0
  · have hb : b < 0 := h'.mp ha
    rw [if_pos ha, if_pos hb, Int.fdiv_eq_tdiv_of_nonneg (by omega) (by omega), Int.neg_tdiv, Int.tdiv_neg, Int.neg_neg]
  · have hb : ¬ b < 0 := fun q => ha (h'.mpr q)
    rw [if_neg ha, if_neg hb, Int.fdiv_eq_tdiv_of_nonneg (by omega) (by omega)]
theorem tdiv_abs' (a b : Int) (_hb : b ≠ 0) (h : (decide (a < 0) == decide (b < 0)) = false) : 0 - (if a < 0 then -a else a).fdiv (if b < 0 then -b else b) = a.tdiv b := by
  have h' : ¬ ((a < 0) ↔ (b < 0)) := by simpa using h
  by_cases ha : a < 0
  · have hb : ¬ b < 0 := fun q => h' ⟨fun _ => q, fun _ => ha⟩
    rw [if_pos ha, if_neg hb, Int.fdiv_eq_tdiv_of_nonneg (by omega) (by omega), Int.neg_tdiv]; omega
  · have hb : b < 0 := by
      by_cases q : b < 0
      · exact q
      · exact absurd ⟨fun x => absurd x ha, fun x => absurd x q⟩ h'
    rw [if_neg ha, if_pos hb, Int.fdiv_eq_tdiv_of_nonneg (by omega) (by omega), Int.tdiv_neg]; omega
theorem moved_t {n b : Int} (h : 0 ≤ n) : (!decide (n < b)) = !decide (0 ≤ n ∧ n < b) := by simp [h]
theorem moved_f {n b : Int} (h : ¬ 0 ≤ n) : (!decide (0 ≤ n)) = !decide (0 ≤ n ∧ n < b) := by simp [h]
end
section
open PySem PySem.W PyProof.Rows

/-- the nine kinds' texts -/
def kn (i : Nat) : Str := [Str.ofString "i8", Str.ofString "i16", Str.ofString "i32", Str.ofString "i64", Str.ofString "u8", Str.ofString "u16", Str.ofString "u32", Str.ofString "u64", Str.ofString "usize"].getD i Str.empty
def sgn (i : Nat) : Bool := decide (i < 4)
def bK (i : Nat) : Nat := [8, 16, 32, 64, 8, 16, 32, 64, 64].getD i 8

abbrev Ret (h₀ : Heap) (L : Addr) (m : Str → Option Value) (news : List (Addr × Obj)) (s : Shared) (Q : Value → Shared → Prop) (R : Tok → Value) : Prop :=
  ∀ (t : Tok) (h' : Heap) (tk' : Nat), Fr h₀ L h' m → News h₀ L h' news → Q (R t) { s with heap := h', toks := tk' }

/-- a pair, or another tuple, comes back -/
abbrev RetT (h₀ : Heap) (L : Addr) (m : Str → Option Value) (news : List (Addr × Obj)) (s : Shared) (Q : Value → Shared → Prop) (mk : Tok → Tok → Array Value) : Prop :=
  ∀ (D : Addr) (t1 t2 : Tok) (h' : Heap) (tk' : Nat), Fr h₀ L h' m → News h₀ L h' ((D, ({ cls := .type "tuple", data := .seq (mk t1 t2) } : Obj)) :: news) → (∀ p ∈ news, p.1 < D) → Q (.ref D) { s with heap := h', toks := tk' }

/-- a contract: a call of f upon vs -/
abbrev Cl (d : Nat) (f : Addr) (news : List (Addr × Obj)) (vs : List Value) (Post : Heap → Addr → (Str → Option Value) → Shared → (Value → Shared → Prop) → Prop) : Prop :=
  ∀ (w : World) (mean : ExcName → Option Value) (mg mb : Str → Option Value) (dp un : Nat) (gd : Option (List Code)) (cn : Str) (cs : Scope) (a : Addr) (ccd : Value) (cl : List (Str × Addr)) (outer : List Env) (A₀ : Around) (base h₀ : Heap) (L : Addr) (m : Str → Option Value) (s : Shared) (Q E : Value → Shared → Prop),
    Below A₀ base outer h₀ → Fr h₀ L s.heap m → (Mine.kf.heap_1 w.params).In h₀ → News h₀ L s.heap news →
    Top Mine.vw (looseW Mine.vw [Str.ofString "LendError", Str.ofString "BITS"]) mean mg mb h₀ → cs.kind = .function →
    dp + d < recursionLimit → un + 8 * d + 100 < cLine → Post h₀ L m s Q →
    wpAny (model PySem.Challenge.rw_nu0375_01.row.prog w) (ktrTop dp un gd cn cs L a ccd cl outer) (call (.ref f) vs) Q E s
theorem Cl.use {d : Nat} {f : Addr} {news : List (Addr × Obj)} {vs : List Value} {Post : Heap → Addr → (Str → Option Value) → Shared → (Value → Shared → Prop) → Prop}
    {w : World} {mean : ExcName → Option Value} {mg mb : Str → Option Value} {dp un : Nat} {gd : Option (List Code)} {cn : Str} {cs : Scope} {a : Addr} {ccd : Value} {cl : List (Str × Addr)} {outer : List Env} {A₀ : Around} {base h₀ : Heap} {L : Addr} {m : Str → Option Value} {s : Shared} {Q E : Value → Shared → Prop}
    (B : Below A₀ base outer h₀) (F : Fr h₀ L s.heap m) (X : (Mine.kf.heap_1 w.params).In h₀) (N : News h₀ L s.heap news)
    (T : Top Mine.vw (looseW Mine.vw [Str.ofString "LendError", Str.ofString "BITS"]) mean mg mb h₀) (hk : cs.kind = .function)
    (C : Cl d f news vs Post) (hd : dp + d < recursionLimit) (hu : un + 8 * d + 100 < cLine) (hp : Post h₀ L m s Q) :
    wpAny (model PySem.Challenge.rw_nu0375_01.row.prog w) (ktrTop dp un gd cn cs L a ccd cl outer) (call (.ref f) vs) Q E s :=
  C w mean mg mb dp un gd cn cs a ccd cl outer A₀ base h₀ L m s Q E B F X N T hk hd hu hp

theorem sub0 {news : List (Addr × Obj)} : ∀ p ∈ news, p ∈ news := fun _ h => h
theorem subS {news news' : List (Addr × Obj)} {x : Addr × Obj} (h : ∀ p ∈ news, p ∈ news') : ∀ p ∈ news, p ∈ x :: news' := fun p q => .tail _ (h p q)
theorem lt_of_all {d : Nat} {l : List (Addr × Obj)} (h : AllLt d l) : ∀ p ∈ l, p.1 < d := by
  induction l with
  | nil => intro p hp; cases hp
  | cons x r ih =>
    intro p hp
    rcases List.mem_cons.mp hp with rfl | hp
    · exact h.1
    · exact ih h.2 p hp
theorem allNe {d e : Nat} {l : List (Addr × Obj)} (h : ∀ p ∈ l, p.1 < d) (he : d ≤ e) : ∀ p ∈ l, p.1 ≠ e := fun p hp => Nat.ne_of_lt (Nat.lt_of_lt_of_le (h p hp) he)
theorem ret_t {h₀ h' : Heap} {L D : Addr} {m : Str → Option Value} {news news' : List (Addr × Obj)} {s : Shared} {Q : Value → Shared → Prop} {mk : Tok → Tok → Array Value} {arr : Array Value} {tk' : Nat}
    (hret : RetT h₀ L m news s Q mk) (t1 t2 : Tok) (F : Fr h₀ L h' m) (N : News h₀ L h' ((D, ({ cls := .type "tuple", data := .seq arr } : Obj)) :: news')) (l : ∀ p ∈ news, p.1 < D) (hs : ∀ p ∈ news, p ∈ news') (e : arr = mk t1 t2) :
    Q (.ref D) { s with heap := h', toks := tk' } := by
  subst e
  refine hret D t1 t2 h' tk' F (fun p hp => ?_) l
  rcases List.mem_cons.mp hp with rfl | hp
  · exact N _ (.head _)
  · exact N p (.tail _ (hs p hp))
section
variable {h₀ h' : Heap} {L : Addr} {m : Str → Option Value} {news news' : List (Addr × Obj)} {s : Shared} {Q : Value → Shared → Prop} {t : Tok} {tk' : Nat}
theorem ret_i {x y : Int} (hret : Ret h₀ L m news s Q (fun t => .int x t)) (e : y = x) (F : Fr h₀ L h' m) (N : News h₀ L h' news') (hs : ∀ p ∈ news, p ∈ news') : Q (.int y t) { s with heap := h', toks := tk' } := by
  subst e; exact hret t h' tk' F fun p hp => N p (hs p hp)
theorem ret_b {x y : Bool} (hret : Ret h₀ L m news s Q (fun _ => .bool x)) (e : y = x) (F : Fr h₀ L h' m) (N : News h₀ L h' news') (hs : ∀ p ∈ news, p ∈ news') : Q (.bool y) { s with heap := h', toks := tk' } := by
  subst e; exact hret 0 h' tk' F fun p hp => N p (hs p hp)
end
theorem roomI {dp un d : Nat} {gd : Option (List Code)} {cn : Str} {cs : Scope} {L a : Addr} {ccd : Value} {cl : List (Str × Addr)} {outer : List Env} {env : Env} (h : dp + d < recursionLimit) (he : 1 ≤ d) :
    ((ktrTop dp un gd cn cs L a ccd cl outer).deeper env).depth < recursionLimit := by
  show dp + 1 < recursionLimit
  omega
theorem pair_ib {v v' : Int} {b b' : Bool} {t : Tok} (e1 : v = v') (e2 : b = b') : (#[.int v t, .bool b] : Array Value) = #[.int v' t, .bool b'] := by rw [e1, e2]
theorem pair_ii {v v' u u' : Int} {t t' : Tok} (e1 : v = v') (e2 : u = u') : (#[.int v t, .int u t'] : Array Value) = #[.int v' t, .int u' t'] := by rw [e1, e2]
theorem log2_small {x : Int} (h : x.natAbs < 2 ^ 64) : x.natAbs.log2 < 9000 := by
  by_cases h0 : x.natAbs = 0
  · rw [h0]; decide
  · exact Nat.lt_of_lt_of_le ((Nat.log2_lt h0).mpr h) (by decide)
theorem mulOk {a b : Int} {j k : Nat} (ha : a.natAbs < 2 ^ j) (hb : b.natAbs < 2 ^ k) (h : j + k ≤ 134217728) : PySem.IntMulOk a b :=
  PySem.IntMulOk.of_le (PySem.intBits_le_iff.mpr ha) (PySem.intBits_le_iff.mpr hb) h
section
variable {prog : Program} {w : World} {A : Around} {E : Value → Shared → Prop} {s : Shared} {a b : Int} {t u : Tok} {Q : Value → Shared → Prop}
theorem add_intG (h : ∀ t k, Q (.int (a + b) t) { s with toks := k }) : wpAny (model prog w) A (binaryOp .Add (.int a t) (.int b u)) Q E s := PyProof.Rows.add_int (h _ _)
theorem sub_intG (h : ∀ t k, Q (.int (a - b) t) { s with toks := k }) : wpAny (model prog w) A (binaryOp .Sub (.int a t) (.int b u)) Q E s := PyProof.Rows.sub_int (h _ _)
theorem mul_intG (hm : IntMulOk a b) (h : ∀ t k, Q (.int (a * b) t) { s with toks := k }) : wpAny (model prog w) A (binaryOp .Mult (.int a t) (.int b u)) Q E s := PyProof.Rows.mul_int (h _ _) hm
theorem pow_intG (hn : 0 ≤ b) (hn2 : b ≤ 1000000) (ha : a.natAbs < 2 ^ 64) (h : ∀ t k, Q (.int (a ^ b.toNat) t) { s with toks := k }) : wpAny (model prog w) A (binaryOp .Pow (.int a t) (.int b u)) Q E s := PyProof.Rows.pow_int_small hn hn2 ha (h _ _)
theorem div_intG (hb : b ≠ 0) (hp : b.natAbs.log2 < 9000) (h : ∀ t k, Q (.int (a.fdiv b) t) { s with toks := k }) : wpAny (model prog w) A (binaryOp .FloorDiv (.int a t) (.int b u)) Q E s := PyProof.Rows.floordiv_int hb (h _ _) (Or.inl (PyProof.noPylong_of_log2 hp))
theorem mod_intG (hb : b ≠ 0) (h : ∀ t k, Q (.int (a.fmod b) t) { s with toks := k }) : wpAny (model prog w) A (binaryOp .Mod (.int a t) (.int b u)) Q E s := PyProof.Rows.mod_int' hb (h _ _)
end
theorem room1 {dp un d e : Nat} {gd : Option (List Code)} {cn : Str} {cs : Scope} {L a : Addr} {ccd : Value} {cl : List (Str × Addr)} {outer : List Env} (h : dp + d < recursionLimit) (he : e + 1 ≤ d) :
    (ktrTop dp un gd cn cs L a ccd cl outer).depth + 1 + e < recursionLimit := by dsimp only [ktrTop]; omega
theorem unit1 {dp un d e : Nat} {gd : Option (List Code)} {cn : Str} {cs : Scope} {L a : Addr} {ccd : Value} {cl : List (Str × Addr)} {outer : List Env} (h : un + 8 * d + 100 < cLine) (he : e + 1 ≤ d) :
    (ktrTop dp un gd cn cs L a ccd cl outer).units + 3 + 8 * e + 100 < cLine := by dsimp only [ktrTop]; omega
theorem unit64 {dp un d : Nat} {gd : Option (List Code)} {cn : Str} {cs : Scope} {L a : Addr} {ccd : Value} {cl : List (Str × Addr)} {outer : List Env} {env : Env} (h : un + 8 * d + 100 < cLine) :
    ((ktrTop dp un gd cn cs L a ccd cl outer).deeper env).units + 64 < cLine := by
  show un + 3 + 64 < cLine
  omega
/-- a loop over the kinds, by cases -/
theorem nine {P : Nat → Prop} (h0 : P 0) (h1 : P 1) (h2 : P 2) (h3 : P 3) (h4 : P 4) (h5 : P 5) (h6 : P 6) (h7 : P 7) (h8 : P 8) : ∀ i, i < 9 → P i
  | 0, _ => h0 | 1, _ => h1 | 2, _ => h2 | 3, _ => h3 | 4, _ => h4 | 5, _ => h5 | 6, _ => h6 | 7, _ => h7 | 8, _ => h8
  | n + 9, h => absurd h (by omega)
end
section
open PySem PySem.W PyProof.Rows

theorem bK_pos (i : Nat) (hi : i < 9) : 8 ≤ bK i ∧ bK i ≤ 64 := by
  revert i; apply nine <;> decide
theorem bK_posI (i : Nat) (hi : i < 9) : (8:Int) ≤ (bK i : Int) ∧ (bK i : Int) ≤ 64 := by
  have := bK_pos i hi; omega
def lowK (i : Nat) : Int := if sgn i then 0 - 2 ^ (bK i - 1) else 0
def highK (i : Nat) : Int := if sgn i then 2 ^ (bK i - 1) - 1 else 2 ^ (bK i) - 1
def fitsK (i : Nat) (x : Int) : Bool := decide (lowK i ≤ x ∧ x ≤ highK i)
def wrapK (i : Nat) (x : Int) : Int := lowK i + (x - lowK i) % 2 ^ bK i
theorem toNat_pred (b : Nat) (h : 8 ≤ b) : ((b : Int) - 1).toNat = b - 1 := by omega
theorem fits_t {i : Nat} {x : Int} (h : lowK i ≤ x) : decide (x ≤ highK i) = fitsK i x := by
  unfold fitsK; simp [h]
theorem fits_f {i : Nat} {x : Int} (h : ¬ lowK i ≤ x) : decide (lowK i ≤ x) = fitsK i x := by
  unfold fitsK; simp [h]
theorem wrap_eq {i : Nat} {x : Int} : lowK i + (x - lowK i).fmod (2 ^ ((bK i : Int)).toNat) = wrapK i x := by
  unfold wrapK
  rw [Int.fmod_eq_emod_of_nonneg _ (Int.le_of_lt (Int.pow_pos (by decide)))]
  rfl
theorem least_t {i : Nat} (hb : 8 ≤ bK i ∧ bK i ≤ 64) (h : sgn i = true) : (0:Int) - 2 ^ ((bK i : Int) - 1).toNat = lowK i := by
  rw [toNat_pred _ hb.1, lowK, if_pos h]
theorem least_f {i : Nat} (h : sgn i = false) : (0:Int) = lowK i := by
  rw [lowK, h]; rfl
theorem greatest_t {i : Nat} (hb : 8 ≤ bK i ∧ bK i ≤ 64) (h : sgn i = true) : (2:Int) ^ ((bK i : Int) - 1).toNat - 1 = highK i := by
  rw [toNat_pred _ hb.1, highK, if_pos h]
theorem greatest_f {i : Nat} (h : sgn i = false) : (2:Int) ^ (bK i : Int).toNat - 1 = highK i := by
  rw [highK, h]; rfl
set_option maxRecDepth 100000 in
set_option maxHeartbeats 4000000 in
theorem bits_item {w : World} {A : Around} {E : Value → Shared → Prop} {s : Shared} {h₀ : Heap} {L : Addr} {m : Str → Option Value} {value slice : Expr} {Q : Value → Shared → Prop} {t : Tok}
    (F : Fr h₀ L s.heap m) (X : (Mine.kf.heap_1 w.params).In h₀) (i : Nat) (hi : i < 9)
    (h : ∀ t, (8:Int) ≤ (bK i : Int) → (bK i : Int) ≤ 64 → Q (.int (bK i : Int) t) { s with toks := s.toks + 1 })
    (hs : ∀ x, subscripted slice false (.ref 48) (.str x t) = operate [.ref 48, .str x t] (getItem (.ref 48) (.str x t)) := by intro _; with_unfolding_all rfl) :
    wpAny (model PySem.Challenge.rw_nu0375_01.row.prog w) A (subscriptTail value slice (.ref 48) (.str (kn i) t)) Q E s := by
  have hb := bK_posI i hi
  replace h := fun t => h t hb.1 hb.2
  clear hb
  revert i
  apply nine
  · intro h; rw [show kn 0 = Str.ofString "i8" from rfl]; k_dflt (refine' topItem_K F X ?l0 ?k0 ?e0 ?zz0 (hs _)); (case l0 => k_is); (case k0 => k_keys); (case e0 => k_is); exact h _
  · intro h; rw [show kn 1 = Str.ofString "i16" from rfl]; k_dflt (refine' topItem_K F X ?l1 ?k1 ?e1 ?zz1 (hs _)); (case l1 => k_is); (case k1 => k_keys); (case e1 => k_is); exact h _
  · intro h; rw [show kn 2 = Str.ofString "i32" from rfl]; k_dflt (refine' topItem_K F X ?l2 ?k2 ?e2 ?zz2 (hs _)); (case l2 => k_is); (case k2 => k_keys); (case e2 => k_is); exact h _
  · intro h; rw [show kn 3 = Str.ofString "i64" from rfl]; k_dflt (refine' topItem_K F X ?l3 ?k3 ?e3 ?zz3 (hs _)); (case l3 => k_is); (case k3 => k_keys); (case e3 => k_is); exact h _
  · intro h; rw [show kn 4 = Str.ofString "u8" from rfl]; k_dflt (refine' topItem_K F X ?l4 ?k4 ?e4 ?zz4 (hs _)); (case l4 => k_is); (case k4 => k_keys); (case e4 => k_is); exact h _
  · intro h; rw [show kn 5 = Str.ofString "u16" from rfl]; k_dflt (refine' topItem_K F X ?l5 ?k5 ?e5 ?zz5 (hs _)); (case l5 => k_is); (case k5 => k_keys); (case e5 => k_is); exact h _
  · intro h; rw [show kn 6 = Str.ofString "u32" from rfl]; k_dflt (refine' topItem_K F X ?l6 ?k6 ?e6 ?zz6 (hs _)); (case l6 => k_is); (case k6 => k_keys); (case e6 => k_is); exact h _
  · intro h; rw [show kn 7 = Str.ofString "u64" from rfl]; k_dflt (refine' topItem_K F X ?l7 ?k7 ?e7 ?zz7 (hs _)); (case l7 => k_is); (case k7 => k_keys); (case e7 => k_is); exact h _
  · intro h; rw [show kn 8 = Str.ofString "usize" from rfl]; k_dflt (refine' topItem_K F X ?l8 ?k8 ?e8 ?zz8 (hs _)); (case l8 => k_is); (case k8 => k_keys); (case e8 => k_is); exact h _
set_option maxRecDepth 100000 in
set_option maxHeartbeats 4000000 in
theorem c_is_signed (i : Nat) (hi : i < 9) (t : Tok) (news : List (Addr × Obj)) :
    Cl 1 55 news [.str (kn i) t] (fun h₀ L m s Q => Ret h₀ L m news s Q (fun _ => .bool (sgn i))) := by
  revert i
  apply nine
  · rw [show kn 0 = Str.ofString "i8" from rfl]
    intro w mean mg mb dp un gd cn cs a0 ccd cl outer A₀ base h₀ L m s Q E B F X N T hk hd hu hret
    refine wpAny_call ?_
    k_dflt cell_enter
    k_steps
    all_goals exact cb_retB hret (by decide +kernel) (by k_asm) (by k_asm)
  · rw [show kn 1 = Str.ofString "i16" from rfl]
    intro w mean mg mb dp un gd cn cs a0 ccd cl outer A₀ base h₀ L m s Q E B F X N T hk hd hu hret
    refine wpAny_call ?_
    k_dflt cell_enter
    k_steps
    all_goals exact cb_retB hret (by decide +kernel) (by k_asm) (by k_asm)
  · rw [show kn 2 = Str.ofString "i32" from rfl]
    intro w mean mg mb dp un gd cn cs a0 ccd cl outer A₀ base h₀ L m s Q E B F X N T hk hd hu hret
    refine wpAny_call ?_
    k_dflt cell_enter
    k_steps
    all_goals exact cb_retB hret (by decide +kernel) (by k_asm) (by k_asm)
  · rw [show kn 3 = Str.ofString "i64" from rfl]
    intro w mean mg mb dp un gd cn cs a0 ccd cl outer A₀ base h₀ L m s Q E B F X N T hk hd hu hret
    refine wpAny_call ?_
    k_dflt cell_enter
    k_steps
    all_goals exact cb_retB hret (by decide +kernel) (by k_asm) (by k_asm)
  · rw [show kn 4 = Str.ofString "u8" from rfl]
    intro w mean mg mb dp un gd cn cs a0 ccd cl outer A₀ base h₀ L m s Q E B F X N T hk hd hu hret
    refine wpAny_call ?_
    k_dflt cell_enter
    k_steps
    all_goals exact cb_retB hret (by decide +kernel) (by k_asm) (by k_asm)
  · rw [show kn 5 = Str.ofString "u16" from rfl]
    intro w mean mg mb dp un gd cn cs a0 ccd cl outer A₀ base h₀ L m s Q E B F X N T hk hd hu hret
    refine wpAny_call ?_
    k_dflt cell_enter
    k_steps
    all_goals exact cb_retB hret (by decide +kernel) (by k_asm) (by k_asm)
  · rw [show kn 6 = Str.ofString "u32" from rfl]
    intro w mean mg mb dp un gd cn cs a0 ccd cl outer A₀ base h₀ L m s Q E B F X N T hk hd hu hret
    refine wpAny_call ?_
    k_dflt cell_enter
    k_steps
    all_goals exact cb_retB hret (by decide +kernel) (by k_asm) (by k_asm)
  · rw [show kn 7 = Str.ofString "u64" from rfl]
    intro w mean mg mb dp un gd cn cs a0 ccd cl outer A₀ base h₀ L m s Q E B F X N T hk hd hu hret
    refine wpAny_call ?_
    k_dflt cell_enter
    k_steps
    all_goals exact cb_retB hret (by decide +kernel) (by k_asm) (by k_asm)
  · rw [show kn 8 = Str.ofString "usize" from rfl]
    intro w mean mg mb dp un gd cn cs a0 ccd cl outer A₀ base h₀ L m s Q E B F X N T hk hd hu hret
    refine wpAny_call ?_
    k_dflt cell_enter
    k_steps
    all_goals exact cb_retB hret (by decide +kernel) (by k_asm) (by k_asm)
theorem rowsB2a : True := by
  k_with_none
  k_with "call ref" => (k_here; (with_reducible show wpAny _ _ (call (Value.ref 55) _ _) _ _ _); k_dflt (refine' Cl.use ?k1 ?k2 ?k3 ?k4 ?k5 ?kK (c_is_signed _ ?ki _ _) ?kd ?ku ?_); (case ki => assumption); (case k1 => k_asm); (case k2 => k_asm); (case k3 => k_asm); (case k4 => k_asm); (case k5 => k_asm); (case kK => first | exact rfl | assumption); (case kd => first | exact room1 (by with_reducible assumption) (by decide) | ((try dsimp only [ktrTop]); omega) | ktr_room); (case ku => first | exact unit1 (by with_reducible assumption) (by decide) | ((try dsimp only [ktrTop]); omega) | ktr_units); intro t9 h9 tk9 F9 N9; (try dsimp only); (try k_sweep); (try k_fold))
  k_with "subscriptTail" => (k_here; (with_reducible show wpAny _ _ (subscriptTail _ _ (Value.ref 48) _) _ _ _); k_dflt (refine' bits_item ?k1 ?k2 _ ?k3 ?_); (case k1 => k_asm); (case k2 => k_asm); (case k3 => assumption); intro _ bLo bHi)
  trivial
set_option maxRecDepth 100000 in
set_option maxHeartbeats 4000000 in
theorem c_least (i : Nat) (hi : i < 9) (t : Tok) (news : List (Addr × Obj)) :
    Cl 2 62 news [.str (kn i) t] (fun h₀ L m s Q => Ret h₀ L m news s Q (fun t => .int (lowK i) t)) := by
  have hb := bK_pos i hi
  intro w mean mg mb dp un gd cn cs a0 ccd cl outer A₀ base h₀ L m s Q E B F X N T hk hd hu hret
  refine wpAny_call ?_
  k_dflt cell_enter
  k_steps
  all_goals first | exact cb_retI hret (least_t hb (by assumption)) (by k_asm) (by k_asm) | exact cb_retI hret (least_f (by assumption)) (by k_asm) (by k_asm)
theorem rowsB2b : True := by
  k_with "call ref" => (k_here; (with_reducible show wpAny _ _ (call (Value.ref 62) _ _) _ _ _); k_dflt (refine' Cl.use ?k1 ?k2 ?k3 ?k4 ?k5 ?kK (c_least _ ?ki _ _) ?kd ?ku ?_); (case ki => assumption); (case k1 => k_asm); (case k2 => k_asm); (case k3 => k_asm); (case k4 => k_asm); (case k5 => k_asm); (case kK => first | exact rfl | assumption); (case kd => first | exact room1 (by with_reducible assumption) (by decide) | ((try dsimp only [ktrTop]); omega) | ktr_room); (case ku => first | exact unit1 (by with_reducible assumption) (by decide) | ((try dsimp only [ktrTop]); omega) | ktr_units); intro t9 h9 tk9 F9 N9; (try dsimp only); (try k_sweep); (try k_fold))
  trivial
set_option maxRecDepth 100000 in
set_option maxHeartbeats 4000000 in
theorem c_greatest (i : Nat) (hi : i < 9) (t : Tok) (news : List (Addr × Obj)) :
    Cl 2 69 news [.str (kn i) t] (fun h₀ L m s Q => Ret h₀ L m news s Q (fun t => .int (highK i) t)) := by
  have hb := bK_pos i hi
  intro w mean mg mb dp un gd cn cs a0 ccd cl outer A₀ base h₀ L m s Q E B F X N T hk hd hu hret
  refine wpAny_call ?_
  k_dflt cell_enter
  k_steps
  all_goals first | exact cb_retI hret (greatest_t hb (by assumption)) (by k_asm) (by k_asm) | exact cb_retI hret (greatest_f (by assumption)) (by k_asm) (by k_asm)
theorem rowsB2c : True := by
  k_with "call ref" => (k_here; (with_reducible show wpAny _ _ (call (Value.ref 69) _ _) _ _ _); k_dflt (refine' Cl.use ?k1 ?k2 ?k3 ?k4 ?k5 ?kK (c_greatest _ ?ki _ _) ?kd ?ku ?_); (case ki => assumption); (case k1 => k_asm); (case k2 => k_asm); (case k3 => k_asm); (case k4 => k_asm); (case k5 => k_asm); (case kK => first | exact rfl | assumption); (case kd => first | exact room1 (by with_reducible assumption) (by decide) | ((try dsimp only [ktrTop]); omega) | ktr_room); (case ku => first | exact unit1 (by with_reducible assumption) (by decide) | ((try dsimp only [ktrTop]); omega) | ktr_units); intro t9 h9 tk9 F9 N9; (try dsimp only); (try k_sweep); (try k_fold))
  trivial
set_option maxRecDepth 100000 in
set_option maxHeartbeats 4000000 in
theorem c_fits (i : Nat) (hi : i < 9) (x : Int) (t t' : Tok) (news : List (Addr × Obj)) :
    Cl 3 76 news [.str (kn i) t, .int x t'] (fun h₀ L m s Q => Ret h₀ L m news s Q (fun _ => .bool (fitsK i x))) := by
  have hb := bK_pos i hi
  intro w mean mg mb dp un gd cn cs a0 ccd cl outer A₀ base h₀ L m s Q E B F X N T hk hd hu hret
  refine wpAny_call ?_
  k_dflt cell_enter
  k_steps
  all_goals first | exact cb_retB hret (fits_t (by assumption)) (by k_asm) (by k_asm) | exact cb_retB hret (fits_f (by assumption)) (by k_asm) (by k_asm)
theorem rowsB2d : True := by
  k_with "call ref" => (k_here; (with_reducible show wpAny _ _ (call (Value.ref 76) _ _) _ _ _); k_dflt (refine' Cl.use ?k1 ?k2 ?k3 ?k4 ?k5 ?kK (c_fits _ ?ki _ _ _ _) ?kd ?ku ?_); (case ki => assumption); (case k1 => k_asm); (case k2 => k_asm); (case k3 => k_asm); (case k4 => k_asm); (case k5 => k_asm); (case kK => first | exact rfl | assumption); (case kd => first | exact room1 (by with_reducible assumption) (by decide) | ((try dsimp only [ktrTop]); omega) | ktr_room); (case ku => first | exact unit1 (by with_reducible assumption) (by decide) | ((try dsimp only [ktrTop]); omega) | ktr_units); intro t9 h9 tk9 F9 N9; (try dsimp only); (try k_sweep); (try k_fold))
  trivial
set_option maxRecDepth 100000 in
set_option maxHeartbeats 4000000 in
theorem c_wrapped (i : Nat) (hi : i < 9) (x : Int) (t t' : Tok) (news : List (Addr × Obj)) :
    Cl 3 83 news [.str (kn i) t, .int x t'] (fun h₀ L m s Q => Ret h₀ L m news s Q (fun t => .int (wrapK i x) t)) := by
  have hb := bK_pos i hi
  intro w mean mg mb dp un gd cn cs a0 ccd cl outer A₀ base h₀ L m s Q E B F X N T hk hd hu hret
  refine wpAny_call ?_
  k_dflt cell_enter
  k_steps
  all_goals first | exact cb_retI hret wrap_eq (by k_asm) (by k_asm)
end
section
theorem fits_iff {i : Nat} {x : Int} : fitsK i x = true ↔ lowK i ≤ x ∧ x ≤ highK i := by unfold fitsK; simp
theorem wrap0 {i : Nat} (hi : i < 9) : wrapK i 0 = 0 := by revert i; apply nine <;> decide +kernel
theorem tdiv_bounds (a b : Int) : (a.tdiv b).natAbs ≤ a.natAbs := by
  rw [Int.natAbs_tdiv]; exact Nat.div_le_self _ _
theorem tdiv_small {a b : Int} (h : a.natAbs < 2 ^ 64) : (a.tdiv b).natAbs < 2 ^ 64 := Nat.lt_of_le_of_lt (tdiv_bounds a b) h
/-- the rest: smaller than the divisor, no further from nought than the dividend -/
theorem rest_eq (a b : Int) : a - b * a.tdiv b = a.tmod b := by have := Int.mul_tdiv_add_tmod a b; omega
theorem rest_le (a b : Int) : (a.tmod b).natAbs ≤ a.natAbs := by
  rw [Int.natAbs_tmod]; exact Nat.mod_le _ _
theorem low_signed {i : Nat} (hi : i < 9) (h : sgn i = true) : lowK i < 0 ∧ highK i = - lowK i - 1 := by revert h; revert i; apply nine <;> decide +kernel
theorem low_unsigned {i : Nat} (hi : i < 9) (h : sgn i = false) : lowK i = 0 ∧ 0 < highK i := by revert h; revert i; apply nine <;> decide +kernel
theorem rest_fits {i : Nat} (hi : i < 9) {a b : Int} (ha : fitsK i a = true) : fitsK i (a - b * a.tdiv b) = true := by
  rw [rest_eq]
  rw [fits_iff] at *
  have hl := rest_le a b
  cases hs : sgn i with
  | true =>
    have := low_signed hi hs
    -- the rest has the dividend's sign
    have h1 : 0 ≤ a → 0 ≤ a.tmod b := fun h => Int.tmod_nonneg _ h
    have h2 : a ≤ 0 → a.tmod b ≤ 0 := fun h => by
      have := Int.tmod_nonneg b (show 0 ≤ -a by omega)
      rw [Int.neg_tmod] at this; omega
    omega
  | false =>
    have := low_unsigned hi hs
    have h1 : 0 ≤ a → 0 ≤ a.tmod b := fun h => Int.tmod_nonneg _ h
    omega
theorem quot_fits {i : Nat} (hi : i < 9) {a b : Int} (h0 : b ≠ 0) (ha : fitsK i a = true) (hb : fitsK i b = true) (h : ¬ (b = -1 ∧ sgn i = true)) : fitsK i (a.tdiv b) = true := by
  rw [fits_iff] at *
  have hl := tdiv_bounds a b
  cases hs : sgn i with
  | true =>
    have := low_signed hi hs
    have hb1 : b ≠ -1 := fun q => h ⟨q, hs⟩
    by_cases hm : a = lowK i
    · by_cases h1 : b = 1
      · subst h1; rw [Int.tdiv_one]; exact ha
      · -- |b| at least two
        have h2 : 2 * (a.tdiv b).natAbs ≤ a.natAbs := by
          rw [Int.natAbs_tdiv]
          have : 2 ≤ b.natAbs := by omega
          calc 2 * (a.natAbs / b.natAbs) ≤ b.natAbs * (a.natAbs / b.natAbs) := Nat.mul_le_mul_right _ this
            _ ≤ a.natAbs := Nat.mul_div_le _ _
        omega
    · omega
  | false =>
    have := low_unsigned hi hs
    have h1 : 0 ≤ a.tdiv b := Int.tdiv_nonneg (by omega) (by omega)
    omega
theorem mod_over {i : Nat} (hi : i < 9) {a b : Int} (h0 : b ≠ 0) (ha : fitsK i a = true) (hb : fitsK i b = true) (h : ¬ (b = -1 ∧ sgn i = true)) :
    (!fitsK i (a - b * a.tdiv b)) = !fitsK i (a.tdiv b) := by
  rw [rest_fits hi ha, quot_fits hi h0 ha hb h]
theorem mod_m1 {i : Nat} (hi : i < 9) {a b : Int} (h : b = -1) : (0 : Int) = wrapK i (a - b * a.tdiv b) := by
  subst h
  have : a - -1 * a.tdiv (-1) = 0 := by rw [show (-1 : Int) = -(1:Int) from rfl, Int.tdiv_neg, Int.tdiv_one]; omega
  rw [this, wrap0 hi]
theorem mod_m1_over {i : Nat} (hi : i < 9) {a b : Int} (h : b = -1) (hs : sgn i = true) (ha : fitsK i a = true) : (a == lowK i) = !fitsK i (a.tdiv b) := by
  subst h
  have e : a.tdiv (-1) = -a := by rw [show (-1 : Int) = -(1:Int) from rfl, Int.tdiv_neg, Int.tdiv_one]
  have := low_signed hi hs
  rw [fits_iff] at ha
  rw [e]
  by_cases h : a = lowK i
  · have : fitsK i (-a) = false := by
      cases q : fitsK i (-a) with
      | false => rfl
      | true => rw [fits_iff] at q; omega
    rw [this]; simp [h]
  · have : fitsK i (-a) = true := by rw [fits_iff]; omega
    rw [this]; simp [h]
end
section
theorem ends_facts {i : Nat} (hi : i < 9) : lowK i ≤ 0 ∧ 0 < highK i ∧ highK i = lowK i + 2 ^ bK i - 1 := by revert i; apply nine <;> decide +kernel
theorem wrap_unique {i : Nat} (hi : i < 9) {x y k : Int} (h1 : lowK i ≤ y) (h2 : y ≤ highK i) (e : x = y + k * 2 ^ bK i) : y = wrapK i x := by
  have hf := ends_facts hi
  unfold wrapK
  have : x - lowK i = (y - lowK i) + 2 ^ bK i * k := by rw [e, Int.mul_comm]; omega
  rw [this, Int.add_mul_emod_self_left, Int.emod_eq_of_lt (by omega) (by omega)]
  omega
theorem wrap_fits {i : Nat} (hi : i < 9) {x : Int} (h : fitsK i x = true) : x = wrapK i x := by
  rw [fits_iff] at h
  exact wrap_unique hi (k := 0) h.1 h.2 (by omega)
theorem two_pow (i : Nat) : (2 : Int) ^ ((bK i : Nat) : Int).toNat = 2 ^ bK i := by rw [Int.toNat_natCast]
theorem lowest_t {i : Nat} (hi : i < 9) {x : Int} (h : highK i < x.fmod (2 ^ (bK i : Int).toNat)) : x.fmod (2 ^ (bK i : Int).toNat) - 2 ^ (bK i : Int).toNat = wrapK i x := by
  have hf := ends_facts hi
  rw [two_pow] at *
  have hM : (0 : Int) < 2 ^ bK i := Int.pow_pos (by decide)
  have e := Int.mul_fdiv_add_fmod x (2 ^ bK i)
  have h1 := Int.fmod_lt_of_pos x hM
  refine wrap_unique hi (k := x.fdiv (2 ^ bK i) + 1) (by omega) (by omega) ?_
  rw [Int.add_mul, Int.one_mul, Int.mul_comm (x.fdiv _)]
  omega
theorem lowest_f {i : Nat} (hi : i < 9) {x : Int} (h : ¬ highK i < x.fmod (2 ^ (bK i : Int).toNat)) : x.fmod (2 ^ (bK i : Int).toNat) = wrapK i x := by
  have hf := ends_facts hi
  rw [two_pow] at *
  have hM : (0 : Int) < 2 ^ bK i := Int.pow_pos (by decide)
  have e := Int.mul_fdiv_add_fmod x (2 ^ bK i)
  have h1 := Int.fmod_nonneg_of_pos x hM
  refine wrap_unique hi (k := x.fdiv (2 ^ bK i)) (by omega) (by omega) ?_
  rw [Int.mul_comm (x.fdiv _)]
  omega
/-- the cut quotient from the floor -/
theorem cut_floor (a b : Int) (h0 : b ≠ 0) : a.tdiv b = a.fdiv b + if (a.fdiv b < 0 ∧ a.fdiv b * b ≠ a) then 1 else 0 := by
  have e1 := Int.mul_fdiv_add_fmod a b
  rw [Int.mul_comm b] at e1
  rw [Int.tdiv_eq_fdiv]
  by_cases hd : b ∣ a
  · have hm : a.fdiv b * b = a := Int.fdiv_mul_cancel hd
    rw [if_pos hd, if_neg (fun q => q.2 hm)]
  · have hm : a.fdiv b * b ≠ a := fun q => hd ⟨a.fdiv b, by rw [Int.mul_comm]; exact q.symm⟩
    have ha : a ≠ 0 := fun q => hd (q ▸ Int.dvd_zero b)
    rw [if_neg hd]
    by_cases hb : 0 ≤ b
    · have hb' : 0 < b := by omega
      have hs : b.sign = 1 := Int.sign_eq_one_of_pos hb'
      have h1 := Int.fmod_nonneg_of_pos a hb'
      have h2 := Int.fmod_lt_of_pos a hb'
      by_cases hA : 0 ≤ a
      · have : 0 ≤ a.fdiv b := Int.fdiv_nonneg hA hb
        rw [if_pos hA, if_pos hb, if_neg (by omega)]
      · have : a.fdiv b < 0 := by
          apply Int.lt_of_not_ge
          intro q
          have := Int.mul_nonneg q hb
          omega
        rw [if_neg hA, if_pos hb, if_pos ⟨this, hm⟩, hs]
    · have hb' : b < 0 := by omega
      have hs : b.sign = -1 := Int.sign_eq_neg_one_of_neg hb'
      have e3 : (-a).fmod (-b) = -(a.fmod b) := by
        have := Int.neg_fmod_neg a b; exact this
      have h1 := Int.fmod_nonneg_of_pos (-a) (show 0 < -b by omega)
      have h2 := Int.fmod_lt_of_pos (-a) (show 0 < -b by omega)
      rw [e3] at h1 h2
      by_cases hA : 0 ≤ a
      · have : a.fdiv b < 0 := by
          apply Int.lt_of_not_ge
          intro q
          have := Int.mul_nonneg q (show 0 ≤ -b by omega)
          rw [Int.mul_neg] at this
          omega
        rw [if_pos hA, if_neg hb, if_pos ⟨this, hm⟩]
      · have : 0 ≤ a.fdiv b := by
          apply Int.le_of_not_gt
          intro q
          have := Int.mul_nonneg (show 0 ≤ -(a.fdiv b) - 1 by omega) (show 0 ≤ -b by omega)
          rw [Int.sub_mul, Int.neg_mul_neg] at this
          omega
        rw [if_neg hA, if_neg hb, if_neg (by omega), hs]; omega
end
section
open PySem PySem.W PyProof.Rows
theorem kind_int {i : Nat} (hi : i < 9) (h : (kn i == Str.ofString "usize") = false) : PySem.intText? (Txt.slice (kn i) (some 1) none) = some (bK i : Int) := by
  revert h; revert i; apply nine <;> decide +kernel
theorem kind_len {i : Nat} (hi : i < 9) : (Txt.slice (kn i) (some 1) none).length ≤ 640 := by
  revert i; apply nine <;> decide +kernel
theorem kind_size {i : Nat} (hi : i < 9) : (kn i).length ≤ sizeLine ∧ 2 ≤ (kn i).length := by
  revert i; apply nine <;> decide +kernel
theorem kind_usize {i : Nat} (hi : i < 9) (h : (kn i == Str.ofString "usize") = true) : i = 8 := by
  revert h; revert i; apply nine <;> decide +kernel
theorem kind_sgn {i : Nat} (hi : i < 9) {b : Bool} (h : (Txt.item (kn i) 0 == Str.ofString "i") = b) : sgn i = b := by
  subst h; revert i; apply nine <;> decide +kernel
theorem ends_lo_u {i : Nat} (hi : i < 9) (h : (kn i == Str.ofString "usize") = true) (h2 : (Txt.item (kn i) 0 == Str.ofString "i") = true) {P : Prop} : P := by
  have := kind_usize hi h
  subst this
  exact absurd h2 (by decide +kernel)
theorem ends_lo_us {i : Nat} (hi : i < 9) (h : (kn i == Str.ofString "usize") = true) : (0:Int) = lowK i := by
  have := kind_usize hi h
  subst this; decide +kernel
theorem ends_hi_us {i : Nat} (hi : i < 9) (h : (kn i == Str.ofString "usize") = true) : (2:Int) ^ (64:Int).toNat - 1 = highK i := by
  have := kind_usize hi h
  subst this; decide +kernel
theorem bits_us {i : Nat} (hi : i < 9) (h : (kn i == Str.ofString "usize") = true) : (64:Int) = (bK i : Int) := by
  have := kind_usize hi h
  subst this; decide +kernel
theorem ends_lo_t {i : Nat} (hi : i < 9) (h : (Txt.item (kn i) 0 == Str.ofString "i") = true) : (0:Int) - 2 ^ ((bK i : Int) - 1).toNat = lowK i := least_t (bK_pos i hi) (kind_sgn hi h)
theorem ends_hi_t {i : Nat} (hi : i < 9) (h : (Txt.item (kn i) 0 == Str.ofString "i") = true) : (2:Int) ^ ((bK i : Int) - 1).toNat - 1 = highK i := greatest_t (bK_pos i hi) (kind_sgn hi h)
theorem ends_lo_f {i : Nat} (hi : i < 9) (h : (Txt.item (kn i) 0 == Str.ofString "i") = false) : (0:Int) = lowK i := least_f (kind_sgn hi h)
theorem ends_hi_f {i : Nat} (hi : i < 9) (h : (Txt.item (kn i) 0 == Str.ofString "i") = false) : (2:Int) ^ (bK i : Int).toNat - 1 = highK i := greatest_f (kind_sgn hi h)
theorem quot_t {a b : Int} (h0 : b ≠ 0) (h : a.fdiv b < 0) : (a.fdiv b + if (a.fdiv b * b != a) = true then 1 else 0) = a.tdiv b := by rw [cut_floor a b h0]; simp [h]
theorem quot_f {a b : Int} (h0 : b ≠ 0) (h : ¬ a.fdiv b < 0) : (a.fdiv b + if decide (a.fdiv b < 0) = true then 1 else 0) = a.tdiv b := by rw [cut_floor a b h0]; simp [h]
theorem notfits_t {i : Nat} {x : Int} (h : lowK i ≤ x) : (!decide (x ≤ highK i)) = !fitsK i x := by rw [fits_t h]
theorem notfits_f {i : Nat} {x : Int} (h : ¬ lowK i ≤ x) : (!decide (lowK i ≤ x)) = !fitsK i x := by rw [fits_f h]
end
section
open PySem PySem.W PyProof.Rows
theorem mv_t {n b : Int} (h : n < 0) : decide (n < 0) = !decide (0 ≤ n ∧ n < b) := by simp [h]
theorem mv_f {n b : Int} (h : ¬ n < 0) : decide (b ≤ n) = !decide (0 ≤ n ∧ n < b) := by
  by_cases q : b ≤ n
  · (simp [q]; try omega)
  · (simp [q]; try omega)
theorem fdiv_fits {i : Nat} (hi : i < 9) {a P : Int} (hP : 0 < P) (fa : fitsK i a = true) : fitsK i (a.fdiv P) = true := by
  rw [fits_iff] at *
  have hf := ends_facts hi
  have e := Int.mul_fdiv_add_fmod a P
  have h1 := Int.fmod_nonneg_of_pos a hP
  have h2 := Int.fmod_lt_of_pos a hP
  refine ⟨?_, ?_⟩
  · by_cases h : 0 ≤ a.fdiv P
    · omega
    · have h3 := Int.mul_nonneg (show 0 ≤ -(a.fdiv P) - 1 by omega) (show 0 ≤ P - 1 by omega)
      rw [Int.sub_mul, Int.mul_sub, Int.neg_mul, Int.mul_comm (a.fdiv P) P] at h3
      omega
  · by_cases h : a.fdiv P ≤ 0
    · omega
    · have h3 := Int.mul_nonneg (show 0 ≤ a.fdiv P by omega) (show 0 ≤ P - 1 by omega)
      rw [Int.mul_sub, Int.mul_comm (a.fdiv P) P] at h3
      omega
theorem shr_eq {i : Nat} (hi : i < 9) {a P : Int} (hP : P ≠ 0) (hP0 : 0 ≤ P) (fa : fitsK i a = true) : (a - a.fmod P).fdiv P = wrapK i (a.fdiv P) := by
  rw [← wrap_fits hi (fdiv_fits hi (by omega) fa)]
  have e := Int.mul_fdiv_add_fmod a P
  rw [show a - a.fmod P = P * a.fdiv P by omega, Int.mul_fdiv_cancel_left _ hP]
theorem pow_nn (k : Nat) : (0:Int) ≤ 2 ^ k := Int.le_of_lt (Int.pow_pos (by decide))
end
section
open PySem PySem.W PyProof.Rows
theorem rowsB3a : True := by
  k_with_none
  k_with "my sides" => (rotate_left 7; (focus k_asm); (focus k_asm); (focus k_asm); (focus k_asm); (focus k_asm); (focus (first | exact rfl | assumption)); (focus (first | exact room1 (by with_reducible assumption) (by decide) | ((try dsimp only [ktrTop]); omega) | ktr_room)); (focus (first | exact unit1 (by with_reducible assumption) (by decide) | ((try dsimp only [ktrTop]); omega) | ktr_units)))
  k_with "my value" => (intro t9 h9 tk9 F9 N9; (try dsimp only); (try k_sweep); (try k_fold))
  k_with "my pair" => (intro D9 t9 u9 h9 tk9 F9 N9 l9; (try dsimp only at N9); (try k_lt l9); (try dsimp only); (try k_sweep); (try k_fold))
  k_with "my pair2" => (intro D9 t9 u9 h9 tk9 F9 N9 l9; (try k_lt l9); (try dsimp only); (try k_sweep); (try k_fold))
  k_with "call ref" => (k_here; (with_reducible show wpAny _ _ (call (Value.ref 55) _ _) _ _ _); k_dflt (refine' Cl.use ?_ ?_ ?_ ?_ ?_ ?_ (c_is_signed _ (by assumption) _ _) ?_ ?_ ?_; walk_at "my sides"); walk_at "my value")
  k_with "call ref" => (k_here; (with_reducible show wpAny _ _ (call (Value.ref 62) _ _) _ _ _); k_dflt (refine' Cl.use ?_ ?_ ?_ ?_ ?_ ?_ (c_least _ (by assumption) _ _) ?_ ?_ ?_; walk_at "my sides"); walk_at "my value")
  k_with "call ref" => (k_here; (with_reducible show wpAny _ _ (call (Value.ref 69) _ _) _ _ _); k_dflt (refine' Cl.use ?_ ?_ ?_ ?_ ?_ ?_ (c_greatest _ (by assumption) _ _) ?_ ?_ ?_; walk_at "my sides"); walk_at "my value")
  k_with "call ref" => (k_here; (with_reducible show wpAny _ _ (call (Value.ref 76) _ _) _ _ _); k_dflt (refine' Cl.use ?_ ?_ ?_ ?_ ?_ ?_ (c_fits _ (by assumption) _ _ _ _) ?_ ?_ ?_; walk_at "my sides"); walk_at "my value")
  k_with "call ref" => (k_here; (with_reducible show wpAny _ _ (call (Value.ref 83) _ _) _ _ _); k_dflt (refine' Cl.use ?_ ?_ ?_ ?_ ?_ ?_ (c_wrapped _ (by assumption) _ _ _ _) ?_ ?_ ?_; walk_at "my sides"); walk_at "my value")
  k_with "subscriptTail" => (k_here; (with_reducible show wpAny _ _ (subscriptTail _ _ (Value.ref 48) _) _ _ _); k_dflt (refine' bits_item ?k1 ?k2 _ ?k3 ?_); (case k1 => k_asm); (case k2 => k_asm); (case k3 => assumption); intro _ bLo bHi)
  k_with "binaryOp Add int int" => (k_here; (refine' add_intG  ?_); intro _ _; (try dsimp only))
  k_with "binaryOp Sub int int" => (k_here; (refine' sub_intG  ?_); intro _ _; (try dsimp only))
  k_with "binaryOp Mult int int" => (k_here; (refine' mul_intG ?e0 ?_); (case e0 => with_reducible assumption); intro _ _; (try dsimp only))
  k_with "binaryOp FloorDiv int int" => (k_here; (refine' div_intG ?e0 ?e1 ?_); (case e0 => with_reducible assumption); (case e1 => with_reducible assumption); intro _ _; (try dsimp only))
  k_with "binaryOp Mod int int" => (k_here; (refine' mod_intG ?e0 ?_); (case e0 => with_reducible assumption); intro _ _; (try dsimp only))
  k_with "binaryOp Pow int int" => (k_here; (refine' pow_intG ?e0 ?e1 ?e2 ?_); (case e0 => first | with_reducible assumption | decide); (case e1 => first | with_reducible assumption | decide); (case e2 => decide); intro _ _; (try dsimp only))
  trivial
set_option maxRecDepth 100000 in
set_option maxHeartbeats 4000000 in
theorem c_cast (i : Nat) (hi : i < 9) (x : Int) (t t' : Tok) (news : List (Addr × Obj)) :
    Cl 4 90 news [.str (kn i) t, .int x t'] (fun h₀ L m s Q => Ret h₀ L m news s Q (fun t => .int (wrapK i x) t)) := by
  intro w mean mg mb dp un gd cn cs a0 ccd cl outer A₀ base h₀ L m s Q E B F X N T hk hd hu hret
  refine wpAny_call ?_
  k_dflt cell_enter
  repeat' (first | (k_unfold; (try dsimp only)) | (k_end; (fail_if_success (with_reducible show Q _ _)); wrow_close) | (k_end; (with_reducible show Q _ _); fail "an end") | walk1 | (dsimp only; walk1) | (leave1; try dsimp only) | fail "no step")
  all_goals first | exact ret_i hret rfl (by k_asm) (by k_asm) (by repeat (first | exact sub0 | refine subS ?_))
set_option maxRecDepth 100000 in
set_option maxHeartbeats 4000000 in
theorem c_cutq (a b : Int) (h : b ≠ 0) (hb : b.natAbs < 2 ^ 64) (t t' : Tok) (news : List (Addr × Obj)) :
    Cl 1 97 news [.int a t, .int b t'] (fun h₀ L m s Q => Ret h₀ L m news s Q (fun t => .int (Int.tdiv a b) t)) := by
  have q1 : (if b < 0 then -b else b) ≠ 0 := by split <;> omega
  have q2 : (if b < 0 then -b else b).natAbs.log2 < 9000 := log2_small (by split <;> omega)
  intro w mean mg mb dp un gd cn cs a0 ccd cl outer A₀ base h₀ L m s Q E B F X N T hk hd hu hret
  refine wpAny_call ?_
  k_dflt cell_enter
  repeat' (first | (k_unfold; (try dsimp only)) | (k_end; (fail_if_success (with_reducible show Q _ _)); wrow_close) | (k_end; (with_reducible show Q _ _); fail "an end") | walk1 | (dsimp only; walk1) | (leave1; try dsimp only) | fail "no step")
  all_goals first | exact ret_i hret (tdiv_abs _ _ h (by assumption)) (by k_asm) (by k_asm) (by repeat (first | exact sub0 | refine subS ?_)) | exact ret_i hret (tdiv_abs' _ _ h (by assumption)) (by k_asm) (by k_asm) (by repeat (first | exact sub0 | refine subS ?_))
theorem pow_fits (n : Int) (h0 : 0 ≤ n) (h : n < 64) : ((2:Int) ^ n.toNat).natAbs < 2 ^ 64 ∧ ((2:Int) ^ n.toNat) ≠ 0 ∧ ((2:Int) ^ n.toNat).natAbs.log2 < 9000 := by
  have e : ((2:Int) ^ n.toNat).natAbs = 2 ^ n.toNat := by rw [Int.natAbs_pow]; rfl
  have l : ((2:Int) ^ n.toNat).natAbs < 2 ^ 64 := by rw [e]; exact Nat.pow_lt_pow_right (by decide) (by omega)
  exact ⟨l, Int.ne_of_gt (Int.pow_pos (by decide)), log2_small l⟩
set_option maxRecDepth 100000 in
set_option maxHeartbeats 4000000 in
theorem c_shl (i : Nat) (hi : i < 9) (a n : Int) (ha : a.natAbs < 2 ^ 64) (t t1 t2 t3: Tok) (news : List (Addr × Obj)) :
    Cl 4 118 news [.str (kn i) t, .str (Str.ofString "<<") t1, .int a t2, .int n t3] (fun h₀ L m s Q => RetT h₀ L m news s Q (fun t1 t2 => #[.int (wrapK i (a * 2 ^ (n.fmod ↑(bK i)).toNat)) t1, .bool (!(decide (0 ≤ n ∧ n < bK i)))])) := by
  have hb := bK_posI i hi
  have q1 : 0 ≤ n.fmod ↑(bK i) := Int.fmod_nonneg_of_pos _ (by omega)
  have q2 : n.fmod ↑(bK i) < ↑(bK i) := Int.fmod_lt_of_pos _ (by omega)
  have q3 : n.fmod ↑(bK i) ≤ 1000000 := by omega
  have q0 : (bK i : Int) ≠ 0 := by omega
  have q4 := pow_fits (n.fmod ↑(bK i)) q1 (by omega)
  have q5 := mulOk ha q4.1 (by decide)
  have q6 := q4.2.1
  have q7 := q4.2.2
  have q8 : (0:Int) ≤ bK i ∧ (bK i : Int) ≤ 1000000 := by omega
  obtain ⟨q8, q9⟩ := q8
  intro w mean mg mb dp un gd cn cs a0 ccd cl outer A₀ base h₀ L m s Q E B F X N T hk hd hu hret
  refine wpAny_call ?_
  k_dflt cell_enter
  repeat' (first | (k_unfold; (try dsimp only)) | (k_end; (fail_if_success (with_reducible show Q _ _)); wrow_close) | (k_end; (with_reducible show Q _ _); fail "an end") | walk1 | (dsimp only; walk1) | (leave1; try dsimp only) | fail "no step")
  all_goals first | exact ret_t hret _ 0 (by k_asm) (by k_asm) (by first | assumption | exact lt_of_all (And.right (by assumption)) | exact lt_of_all (And.right (And.right (by assumption))) | exact lt_of_all (And.right (And.right (And.right (by assumption))))) (by repeat (first | exact sub0 | refine subS ?_)) (pair_ib rfl (moved_t (by assumption))) | exact ret_t hret _ 0 (by k_asm) (by k_asm) (by first | assumption | exact lt_of_all (And.right (by assumption)) | exact lt_of_all (And.right (And.right (by assumption))) | exact lt_of_all (And.right (And.right (And.right (by assumption))))) (by repeat (first | exact sub0 | refine subS ?_)) (pair_ib rfl (moved_f (by assumption)))
set_option maxRecDepth 100000 in
set_option maxHeartbeats 4000000 in
theorem c_shr (i : Nat) (hi : i < 9) (a n : Int) (ha : a.natAbs < 2 ^ 64) (t t1 t2 t3: Tok) (news : List (Addr × Obj)) :
    Cl 4 118 news [.str (kn i) t, .str (Str.ofString ">>") t1, .int a t2, .int n t3] (fun h₀ L m s Q => RetT h₀ L m news s Q (fun t1 t2 => #[.int (wrapK i (a.fdiv (2 ^ (n.fmod ↑(bK i)).toNat))) t1, .bool (!(decide (0 ≤ n ∧ n < bK i)))])) := by
  have hb := bK_posI i hi
  have q1 : 0 ≤ n.fmod ↑(bK i) := Int.fmod_nonneg_of_pos _ (by omega)
  have q2 : n.fmod ↑(bK i) < ↑(bK i) := Int.fmod_lt_of_pos _ (by omega)
  have q3 : n.fmod ↑(bK i) ≤ 1000000 := by omega
  have q0 : (bK i : Int) ≠ 0 := by omega
  have q4 := pow_fits (n.fmod ↑(bK i)) q1 (by omega)
  have q5 := mulOk ha q4.1 (by decide)
  have q6 := q4.2.1
  have q7 := q4.2.2
  have q8 : (0:Int) ≤ bK i ∧ (bK i : Int) ≤ 1000000 := by omega
  obtain ⟨q8, q9⟩ := q8
  intro w mean mg mb dp un gd cn cs a0 ccd cl outer A₀ base h₀ L m s Q E B F X N T hk hd hu hret
  refine wpAny_call ?_
  k_dflt cell_enter
  repeat' (first | (k_unfold; (try dsimp only)) | (k_end; (fail_if_success (with_reducible show Q _ _)); wrow_close) | (k_end; (with_reducible show Q _ _); fail "an end") | walk1 | (dsimp only; walk1) | (leave1; try dsimp only) | fail "no step")
  all_goals first | exact ret_t hret _ 0 (by k_asm) (by k_asm) (by first | assumption | exact lt_of_all (And.right (by assumption)) | exact lt_of_all (And.right (And.right (by assumption))) | exact lt_of_all (And.right (And.right (And.right (by assumption))))) (by repeat (first | exact sub0 | refine subS ?_)) (pair_ib rfl (moved_t (by assumption))) | exact ret_t hret _ 0 (by k_asm) (by k_asm) (by first | assumption | exact lt_of_all (And.right (by assumption)) | exact lt_of_all (And.right (And.right (by assumption))) | exact lt_of_all (And.right (And.right (And.right (by assumption))))) (by repeat (first | exact sub0 | refine subS ?_)) (pair_ib rfl (moved_f (by assumption)))
set_option maxRecDepth 100000 in
set_option maxHeartbeats 4000000 in
theorem c_neg (i : Nat) (hi : i < 9) (a : Int) (t t1 : Tok) (news : List (Addr × Obj)) :
    Cl 4 125 news [.str (kn i) t, .int a t1] (fun h₀ L m s Q => RetT h₀ L m news s Q (fun t1 t2 => #[.int (wrapK i (0 - a)) t1, .bool (! fitsK i (0 - a))])) := by
  intro w mean mg mb dp un gd cn cs a0 ccd cl outer A₀ base h₀ L m s Q E B F X N T hk hd hu hret
  refine wpAny_call ?_
  k_dflt cell_enter
  repeat' (first | (k_unfold; (try dsimp only)) | (k_end; (fail_if_success (with_reducible show Q _ _)); wrow_close) | (k_end; (with_reducible show Q _ _); fail "an end") | walk1 | (dsimp only; walk1) | (leave1; try dsimp only) | fail "no step")
  all_goals first | exact ret_t hret _ 0 (by k_asm) (by k_asm) (by first | assumption | exact lt_of_all (And.right (by assumption)) | exact lt_of_all (And.right (And.right (by assumption))) | exact lt_of_all (And.right (And.right (And.right (by assumption))))) (by repeat (first | exact sub0 | refine subS ?_)) rfl
set_option maxRecDepth 100000 in
set_option maxHeartbeats 4000000 in
theorem c_inv (i : Nat) (hi : i < 9) (a : Int) (t t1 : Tok) (news : List (Addr × Obj)) :
    Cl 4 132 news [.str (kn i) t, .int a t1] (fun h₀ L m s Q => Ret h₀ L m news s Q (fun t => .int (wrapK i (-1 - a)) t)) := by
  intro w mean mg mb dp un gd cn cs a0 ccd cl outer A₀ base h₀ L m s Q E B F X N T hk hd hu hret
  refine wpAny_call ?_
  k_dflt cell_enter
  repeat' (first | (k_unfold; (try dsimp only)) | (k_end; (fail_if_success (with_reducible show Q _ _)); wrow_close) | (k_end; (with_reducible show Q _ _); fail "an end") | walk1 | (dsimp only; walk1) | (leave1; try dsimp only) | fail "no step")
  all_goals first | exact ret_i hret rfl (by k_asm) (by k_asm) (by repeat (first | exact sub0 | refine subS ?_))
set_option maxRecDepth 100000 in
set_option maxHeartbeats 4000000 in
theorem c_eq (a b : Int) (t t1 t2 : Tok) (news : List (Addr × Obj)) :
    Cl 1 139 news [.str (Str.ofString "==") t, .int a t1, .int b t2] (fun h₀ L m s Q => Ret h₀ L m news s Q (fun t => .bool (a == b))) := by
  intro w mean mg mb dp un gd cn cs a0 ccd cl outer A₀ base h₀ L m s Q E B F X N T hk hd hu hret
  refine wpAny_call ?_
  k_dflt cell_enter
  repeat' (first | (k_unfold; (try dsimp only)) | (k_end; (fail_if_success (with_reducible show Q _ _)); wrow_close) | (k_end; (with_reducible show Q _ _); fail "an end") | walk1 | (dsimp only; walk1) | (leave1; try dsimp only) | fail "no step")
  all_goals first | exact ret_b hret rfl (by k_asm) (by k_asm) (by repeat (first | exact sub0 | refine subS ?_))
set_option maxRecDepth 100000 in
set_option maxHeartbeats 4000000 in
theorem c_ne (a b : Int) (t t1 t2 : Tok) (news : List (Addr × Obj)) :
    Cl 1 139 news [.str (Str.ofString "!=") t, .int a t1, .int b t2] (fun h₀ L m s Q => Ret h₀ L m news s Q (fun t => .bool (a != b))) := by
  intro w mean mg mb dp un gd cn cs a0 ccd cl outer A₀ base h₀ L m s Q E B F X N T hk hd hu hret
  refine wpAny_call ?_
  k_dflt cell_enter
  repeat' (first | (k_unfold; (try dsimp only)) | (k_end; (fail_if_success (with_reducible show Q _ _)); wrow_close) | (k_end; (with_reducible show Q _ _); fail "an end") | walk1 | (dsimp only; walk1) | (leave1; try dsimp only) | fail "no step")
  all_goals first | exact ret_b hret rfl (by k_asm) (by k_asm) (by repeat (first | exact sub0 | refine subS ?_))
set_option maxRecDepth 100000 in
set_option maxHeartbeats 4000000 in
theorem c_lt (a b : Int) (t t1 t2 : Tok) (news : List (Addr × Obj)) :
    Cl 1 139 news [.str (Str.ofString "<") t, .int a t1, .int b t2] (fun h₀ L m s Q => Ret h₀ L m news s Q (fun t => .bool (decide (a < b)))) := by
  intro w mean mg mb dp un gd cn cs a0 ccd cl outer A₀ base h₀ L m s Q E B F X N T hk hd hu hret
  refine wpAny_call ?_
  k_dflt cell_enter
  repeat' (first | (k_unfold; (try dsimp only)) | (k_end; (fail_if_success (with_reducible show Q _ _)); wrow_close) | (k_end; (with_reducible show Q _ _); fail "an end") | walk1 | (dsimp only; walk1) | (leave1; try dsimp only) | fail "no step")
  all_goals first | exact ret_b hret rfl (by k_asm) (by k_asm) (by repeat (first | exact sub0 | refine subS ?_))
set_option maxRecDepth 100000 in
set_option maxHeartbeats 4000000 in
theorem c_le (a b : Int) (t t1 t2 : Tok) (news : List (Addr × Obj)) :
    Cl 1 139 news [.str (Str.ofString "<=") t, .int a t1, .int b t2] (fun h₀ L m s Q => Ret h₀ L m news s Q (fun t => .bool (decide (a ≤ b)))) := by
  intro w mean mg mb dp un gd cn cs a0 ccd cl outer A₀ base h₀ L m s Q E B F X N T hk hd hu hret
  refine wpAny_call ?_
  k_dflt cell_enter
  repeat' (first | (k_unfold; (try dsimp only)) | (k_end; (fail_if_success (with_reducible show Q _ _)); wrow_close) | (k_end; (with_reducible show Q _ _); fail "an end") | walk1 | (dsimp only; walk1) | (leave1; try dsimp only) | fail "no step")
  all_goals first | exact ret_b hret rfl (by k_asm) (by k_asm) (by repeat (first | exact sub0 | refine subS ?_))
set_option maxRecDepth 100000 in
set_option maxHeartbeats 4000000 in
theorem c_gt (a b : Int) (t t1 t2 : Tok) (news : List (Addr × Obj)) :
    Cl 1 139 news [.str (Str.ofString ">") t, .int a t1, .int b t2] (fun h₀ L m s Q => Ret h₀ L m news s Q (fun t => .bool (decide (b < a)))) := by
  intro w mean mg mb dp un gd cn cs a0 ccd cl outer A₀ base h₀ L m s Q E B F X N T hk hd hu hret
  refine wpAny_call ?_
  k_dflt cell_enter
  repeat' (first | (k_unfold; (try dsimp only)) | (k_end; (fail_if_success (with_reducible show Q _ _)); wrow_close) | (k_end; (with_reducible show Q _ _); fail "an end") | walk1 | (dsimp only; walk1) | (leave1; try dsimp only) | fail "no step")
  all_goals first | exact ret_b hret rfl (by k_asm) (by k_asm) (by repeat (first | exact sub0 | refine subS ?_))
set_option maxRecDepth 100000 in
set_option maxHeartbeats 4000000 in
theorem c_ge (a b : Int) (t t1 t2 : Tok) (news : List (Addr × Obj)) :
    Cl 1 139 news [.str (Str.ofString ">=") t, .int a t1, .int b t2] (fun h₀ L m s Q => Ret h₀ L m news s Q (fun t => .bool (decide (b ≤ a)))) := by
  intro w mean mg mb dp un gd cn cs a0 ccd cl outer A₀ base h₀ L m s Q E B F X N T hk hd hu hret
  refine wpAny_call ?_
  k_dflt cell_enter
  repeat' (first | (k_unfold; (try dsimp only)) | (k_end; (fail_if_success (with_reducible show Q _ _)); wrow_close) | (k_end; (with_reducible show Q _ _); fail "an end") | walk1 | (dsimp only; walk1) | (leave1; try dsimp only) | fail "no step")
  all_goals first | exact ret_b hret rfl (by k_asm) (by k_asm) (by repeat (first | exact sub0 | refine subS ?_))
end
section
open PySem PySem.W PyProof.Rows
theorem rowsB4a : True := by
  k_with_none
  k_with "my sides" => (rotate_left 7; (focus k_asm); (focus k_asm); (focus k_asm); (focus k_asm); (focus k_asm); (focus (first | exact rfl | assumption)); (focus (first | exact room1 (by with_reducible assumption) (by decide) | ((try dsimp only [ktrTop]); omega) | ktr_room)); (focus (first | exact unit1 (by with_reducible assumption) (by decide) | ((try dsimp only [ktrTop]); omega) | ktr_units)))
  k_with "my value" => (intro t9 h9 tk9 F9 N9; (try dsimp only); (try k_sweep); (try k_fold))
  k_with "my pair" => (intro D9 t9 u9 h9 tk9 F9 N9 l9; (try dsimp only at N9); (try k_lt l9); (try dsimp only); (try k_sweep); (try k_fold))
  k_with "my pair2" => (intro D9 t9 u9 h9 tk9 F9 N9 l9; (try k_lt l9); (try dsimp only); (try k_sweep); (try k_fold))
  k_with "call ref" => (k_here; (with_reducible show wpAny _ _ (call (Value.ref 55) _ _) _ _ _); k_dflt (refine' Cl.use ?_ ?_ ?_ ?_ ?_ ?_ (c_is_signed _ (by assumption) _ _) ?_ ?_ ?_; walk_at "my sides"); walk_at "my value")
  k_with "call ref" => (k_here; (with_reducible show wpAny _ _ (call (Value.ref 62) _ _) _ _ _); k_dflt (refine' Cl.use ?_ ?_ ?_ ?_ ?_ ?_ (c_least _ (by assumption) _ _) ?_ ?_ ?_; walk_at "my sides"); walk_at "my value")
  k_with "call ref" => (k_here; (with_reducible show wpAny _ _ (call (Value.ref 76) _ _) _ _ _); k_dflt (refine' Cl.use ?_ ?_ ?_ ?_ ?_ ?_ (c_fits _ (by assumption) _ _ _ _) ?_ ?_ ?_; walk_at "my sides"); walk_at "my value")
  k_with "call ref" => (k_here; (with_reducible show wpAny _ _ (call (Value.ref 83) _ _) _ _ _); k_dflt (refine' Cl.use ?_ ?_ ?_ ?_ ?_ ?_ (c_wrapped _ (by assumption) _ _ _ _) ?_ ?_ ?_; walk_at "my sides"); walk_at "my value")
  k_with "call ref" => (k_here; (with_reducible show wpAny _ _ (call (Value.ref 97) _ _) _ _ _); k_dflt (refine' Cl.use ?_ ?_ ?_ ?_ ?_ ?_ (c_cutq _ _ (by assumption) (by assumption) _ _ _) ?_ ?_ ?_; walk_at "my sides"); walk_at "my value")
  k_with "call ref" => (k_here; (with_reducible show wpAny _ _ (call (Value.ref 118) _ _) _ _ _); k_dflt (refine' Cl.use ?_ ?_ ?_ ?_ ?_ ?_ (c_shl _ (by assumption) _ _ (by assumption) _ _ _ _ _) ?_ ?_ ?_; walk_at "my sides"); walk_at "my pair")
  k_with "call ref" => (k_here; (with_reducible show wpAny _ _ (call (Value.ref 118) _ _) _ _ _); k_dflt (refine' Cl.use ?_ ?_ ?_ ?_ ?_ ?_ (c_shr _ (by assumption) _ _ (by assumption) _ _ _ _ _) ?_ ?_ ?_; walk_at "my sides"); walk_at "my pair")
  k_with "binaryOp Add int int" => (k_here; (refine' add_intG  ?_); intro _ _; (try dsimp only))
  k_with "binaryOp Sub int int" => (k_here; (refine' sub_intG  ?_); intro _ _; (try dsimp only))
  k_with "binaryOp Mult int int" => (k_here; (refine' mul_intG ?e0 ?_); (case e0 => with_reducible assumption); intro _ _; (try dsimp only))
  k_with "binaryOp FloorDiv int int" => (k_here; (refine' div_intG ?e0 ?e1 ?_); (case e0 => with_reducible assumption); (case e1 => with_reducible assumption); intro _ _; (try dsimp only))
  k_with "binaryOp Mod int int" => (k_here; (refine' mod_intG ?e0 ?_); (case e0 => with_reducible assumption); intro _ _; (try dsimp only))
  k_with "binaryOp Pow int int" => (k_here; (refine' pow_intG ?e0 ?e1 ?e2 ?_); (case e0 => first | with_reducible assumption | decide); (case e1 => first | with_reducible assumption | decide); (case e2 => decide); intro _ _; (try dsimp only))
  k_with "call ref" => (k_here; (with_reducible show wpAny _ _ (call (Value.ref 104) _ _) _ _ _); k_dflt (refine wpAny_call ?_; refine' code_def ?k1 ?k2 ?k3 ?k4 ?k5 ?kA ?kF ?kK ?k6 ?k7 ?k8 ?k9 ?kB ?_ ?c2 ?c3 ?c4 ?c5; (case kA => exact rfl); (case kF => exact rfl); (case kK => exact rfl); (case k1 => k_asm); (case k2 => k_asm); (case k3 => k_asm); (case k4 => k_asm); (case k5 => k_asm); (case k6 => k_is); (case k7 => k_is); (case k8 => first | exact roomI (by with_reducible assumption) (by decide) | ktr_room); (case k9 => exact BindsTo.of_eq rfl); (case c5 => decide); (case kB => exact locs rfl); (case c2 => exact rfl); (case c3 => exact rfl); (case c4 => exact rfl); k_whole; intro g' L' h' FG' F' N' B' X' T'; (try dsimp only); (try k_lift B'); (try k_fold)))
  trivial
set_option maxRecDepth 100000 in
set_option maxHeartbeats 4000000 in
theorem c_chk_shl (i : Nat) (hi : i < 9) (a n : Int) (ha : a.natAbs < 2 ^ 64) (t t1 t2 t3: Tok) (news : List (Addr × Obj)) :
    Cl 5 111 news [.str (kn i) t, .str (Str.ofString "<<") t1, .int a t2, .int n t3] (fun h₀ L m s Q => RetT h₀ L m news s Q (fun t1 t2 => #[.int (wrapK i (a * 2 ^ (n.fmod ↑(bK i)).toNat)) t1, .bool (!(decide (0 ≤ n ∧ n < bK i)))])) := by
  intro w mean mg mb dp un gd cn cs a0 ccd cl outer A₀ base h₀ L m s Q E B F X N T hk hd hu hret
  refine wpAny_call ?_
  k_dflt cell_enter
  repeat' (first | (k_unfold; (try dsimp only)) | (k_end; (fail_if_success (with_reducible show Q _ _)); wrow_close) | (k_end; (with_reducible show Q _ _); fail "an end") | walk1 | (dsimp only; walk1) | (leave1; try dsimp only) | fail "no step")
  all_goals first | exact ret_t hret _ 0 (by k_asm) (by k_asm) (by first | assumption | exact lt_of_all (And.right (by assumption)) | exact lt_of_all (And.right (And.right (by assumption))) | exact lt_of_all (And.right (And.right (And.right (by assumption))))) (by repeat (first | exact sub0 | refine subS ?_)) rfl
set_option maxRecDepth 100000 in
set_option maxHeartbeats 4000000 in
theorem c_chk_shr (i : Nat) (hi : i < 9) (a n : Int) (ha : a.natAbs < 2 ^ 64) (t t1 t2 t3: Tok) (news : List (Addr × Obj)) :
    Cl 5 111 news [.str (kn i) t, .str (Str.ofString ">>") t1, .int a t2, .int n t3] (fun h₀ L m s Q => RetT h₀ L m news s Q (fun t1 t2 => #[.int (wrapK i (a.fdiv (2 ^ (n.fmod ↑(bK i)).toNat))) t1, .bool (!(decide (0 ≤ n ∧ n < bK i)))])) := by
  intro w mean mg mb dp un gd cn cs a0 ccd cl outer A₀ base h₀ L m s Q E B F X N T hk hd hu hret
  refine wpAny_call ?_
  k_dflt cell_enter
  repeat' (first | (k_unfold; (try dsimp only)) | (k_end; (fail_if_success (with_reducible show Q _ _)); wrow_close) | (k_end; (with_reducible show Q _ _); fail "an end") | walk1 | (dsimp only; walk1) | (leave1; try dsimp only) | fail "no step")
  all_goals first | exact ret_t hret _ 0 (by k_asm) (by k_asm) (by first | assumption | exact lt_of_all (And.right (by assumption)) | exact lt_of_all (And.right (And.right (by assumption))) | exact lt_of_all (And.right (And.right (And.right (by assumption))))) (by repeat (first | exact sub0 | refine subS ?_)) rfl
set_option maxRecDepth 100000 in
set_option maxHeartbeats 4000000 in
theorem c_chk_add (i : Nat) (hi : i < 9) (a b : Int) (ha : a.natAbs < 2 ^ 64) (hb : b.natAbs < 2 ^ 64) (t t1 t2 t3: Tok) (news : List (Addr × Obj)) :
    Cl 5 111 news [.str (kn i) t, .str (Str.ofString "+") t1, .int a t2, .int b t3] (fun h₀ L m s Q => RetT h₀ L m news s Q (fun t1 t2 => #[.int (wrapK i (a + b)) t1, .bool (!fitsK i (a + b))])) := by
  have q1 := mulOk ha hb (by decide)
  intro w mean mg mb dp un gd cn cs a0 ccd cl outer A₀ base h₀ L m s Q E B F X N T hk hd hu hret
  refine wpAny_call ?_
  k_dflt cell_enter
  repeat' (first | (k_unfold; (try dsimp only)) | (k_end; (fail_if_success (with_reducible show Q _ _)); wrow_close) | (k_end; (with_reducible show Q _ _); fail "an end") | walk1 | (dsimp only; walk1) | (leave1; try dsimp only) | fail "no step")
  all_goals first | exact ret_t hret _ 0 (by k_asm) (by k_asm) (by first | assumption | exact lt_of_all (And.right (by assumption)) | exact lt_of_all (And.right (And.right (by assumption))) | exact lt_of_all (And.right (And.right (And.right (by assumption))))) (by repeat (first | exact sub0 | refine subS ?_)) rfl
set_option maxRecDepth 100000 in
set_option maxHeartbeats 4000000 in
theorem c_chk_sub (i : Nat) (hi : i < 9) (a b : Int) (ha : a.natAbs < 2 ^ 64) (hb : b.natAbs < 2 ^ 64) (t t1 t2 t3: Tok) (news : List (Addr × Obj)) :
    Cl 5 111 news [.str (kn i) t, .str (Str.ofString "-") t1, .int a t2, .int b t3] (fun h₀ L m s Q => RetT h₀ L m news s Q (fun t1 t2 => #[.int (wrapK i (a - b)) t1, .bool (!fitsK i (a - b))])) := by
  have q1 := mulOk ha hb (by decide)
  intro w mean mg mb dp un gd cn cs a0 ccd cl outer A₀ base h₀ L m s Q E B F X N T hk hd hu hret
  refine wpAny_call ?_
  k_dflt cell_enter
  repeat' (first | (k_unfold; (try dsimp only)) | (k_end; (fail_if_success (with_reducible show Q _ _)); wrow_close) | (k_end; (with_reducible show Q _ _); fail "an end") | walk1 | (dsimp only; walk1) | (leave1; try dsimp only) | fail "no step")
  all_goals first | exact ret_t hret _ 0 (by k_asm) (by k_asm) (by first | assumption | exact lt_of_all (And.right (by assumption)) | exact lt_of_all (And.right (And.right (by assumption))) | exact lt_of_all (And.right (And.right (And.right (by assumption))))) (by repeat (first | exact sub0 | refine subS ?_)) rfl
set_option maxRecDepth 100000 in
set_option maxHeartbeats 4000000 in
theorem c_chk_mul (i : Nat) (hi : i < 9) (a b : Int) (ha : a.natAbs < 2 ^ 64) (hb : b.natAbs < 2 ^ 64) (t t1 t2 t3: Tok) (news : List (Addr × Obj)) :
    Cl 5 111 news [.str (kn i) t, .str (Str.ofString "*") t1, .int a t2, .int b t3] (fun h₀ L m s Q => RetT h₀ L m news s Q (fun t1 t2 => #[.int (wrapK i (a * b)) t1, .bool (!fitsK i (a * b))])) := by
  have q1 := mulOk ha hb (by decide)
  intro w mean mg mb dp un gd cn cs a0 ccd cl outer A₀ base h₀ L m s Q E B F X N T hk hd hu hret
  refine wpAny_call ?_
  k_dflt cell_enter
  repeat' (first | (k_unfold; (try dsimp only)) | (k_end; (fail_if_success (with_reducible show Q _ _)); wrow_close) | (k_end; (with_reducible show Q _ _); fail "an end") | walk1 | (dsimp only; walk1) | (leave1; try dsimp only) | fail "no step")
  all_goals first | exact ret_t hret _ 0 (by k_asm) (by k_asm) (by first | assumption | exact lt_of_all (And.right (by assumption)) | exact lt_of_all (And.right (And.right (by assumption))) | exact lt_of_all (And.right (And.right (And.right (by assumption))))) (by repeat (first | exact sub0 | refine subS ?_)) rfl
set_option maxRecDepth 100000 in
set_option maxHeartbeats 4000000 in
theorem c_chk_and (i : Nat) (hi : i < 9) (a b : Int) (ha : a.natAbs < 2 ^ 64) (hb : b.natAbs < 2 ^ 64) (t t1 t2 t3: Tok) (news : List (Addr × Obj)) :
    Cl 5 111 news [.str (kn i) t, .str (Str.ofString "&") t1, .int a t2, .int b t3] (fun h₀ L m s Q => RetT h₀ L m news s Q (fun t1 t2 => #[.int (wrapK i (PySem.Builtin.bitAnd a b)) t1, .bool (!fitsK i (PySem.Builtin.bitAnd a b))])) := by
  have q1 := mulOk ha hb (by decide)
  intro w mean mg mb dp un gd cn cs a0 ccd cl outer A₀ base h₀ L m s Q E B F X N T hk hd hu hret
  refine wpAny_call ?_
  k_dflt cell_enter
  repeat' (first | (k_unfold; (try dsimp only)) | (k_end; (fail_if_success (with_reducible show Q _ _)); wrow_close) | (k_end; (with_reducible show Q _ _); fail "an end") | walk1 | (dsimp only; walk1) | (leave1; try dsimp only) | fail "no step")
  all_goals first | exact ret_t hret _ 0 (by k_asm) (by k_asm) (by first | assumption | exact lt_of_all (And.right (by assumption)) | exact lt_of_all (And.right (And.right (by assumption))) | exact lt_of_all (And.right (And.right (And.right (by assumption))))) (by repeat (first | exact sub0 | refine subS ?_)) rfl
set_option maxRecDepth 100000 in
set_option maxHeartbeats 4000000 in
theorem c_chk_or (i : Nat) (hi : i < 9) (a b : Int) (ha : a.natAbs < 2 ^ 64) (hb : b.natAbs < 2 ^ 64) (t t1 t2 t3: Tok) (news : List (Addr × Obj)) :
    Cl 5 111 news [.str (kn i) t, .str (Str.ofString "|") t1, .int a t2, .int b t3] (fun h₀ L m s Q => RetT h₀ L m news s Q (fun t1 t2 => #[.int (wrapK i (PySem.Builtin.bitOr a b)) t1, .bool (!fitsK i (PySem.Builtin.bitOr a b))])) := by
  have q1 := mulOk ha hb (by decide)
  intro w mean mg mb dp un gd cn cs a0 ccd cl outer A₀ base h₀ L m s Q E B F X N T hk hd hu hret
  refine wpAny_call ?_
  k_dflt cell_enter
  repeat' (first | (k_unfold; (try dsimp only)) | (k_end; (fail_if_success (with_reducible show Q _ _)); wrow_close) | (k_end; (with_reducible show Q _ _); fail "an end") | walk1 | (dsimp only; walk1) | (leave1; try dsimp only) | fail "no step")
  all_goals first | exact ret_t hret _ 0 (by k_asm) (by k_asm) (by first | assumption | exact lt_of_all (And.right (by assumption)) | exact lt_of_all (And.right (And.right (by assumption))) | exact lt_of_all (And.right (And.right (And.right (by assumption))))) (by repeat (first | exact sub0 | refine subS ?_)) rfl
set_option maxRecDepth 100000 in
set_option maxHeartbeats 4000000 in
theorem c_chk_xor (i : Nat) (hi : i < 9) (a b : Int) (ha : a.natAbs < 2 ^ 64) (hb : b.natAbs < 2 ^ 64) (t t1 t2 t3: Tok) (news : List (Addr × Obj)) :
    Cl 5 111 news [.str (kn i) t, .str (Str.ofString "^") t1, .int a t2, .int b t3] (fun h₀ L m s Q => RetT h₀ L m news s Q (fun t1 t2 => #[.int (wrapK i (PySem.Builtin.bitXor a b)) t1, .bool (!fitsK i (PySem.Builtin.bitXor a b))])) := by
  have q1 := mulOk ha hb (by decide)
  intro w mean mg mb dp un gd cn cs a0 ccd cl outer A₀ base h₀ L m s Q E B F X N T hk hd hu hret
  refine wpAny_call ?_
  k_dflt cell_enter
  repeat' (first | (k_unfold; (try dsimp only)) | (k_end; (fail_if_success (with_reducible show Q _ _)); wrow_close) | (k_end; (with_reducible show Q _ _); fail "an end") | walk1 | (dsimp only; walk1) | (leave1; try dsimp only) | fail "no step")
  all_goals first | exact ret_t hret _ 0 (by k_asm) (by k_asm) (by first | assumption | exact lt_of_all (And.right (by assumption)) | exact lt_of_all (And.right (And.right (by assumption))) | exact lt_of_all (And.right (And.right (And.right (by assumption))))) (by repeat (first | exact sub0 | refine subS ?_)) rfl
end
section
open PySem PySem.W PyProof.Rows
theorem rowsB5a : True := by
  k_with_none
  k_with "my sides" => (rotate_left 7; (focus k_asm); (focus k_asm); (focus k_asm); (focus k_asm); (focus k_asm); (focus (first | exact rfl | assumption)); (focus (first | exact room1 (by with_reducible assumption) (by decide) | ((try dsimp only [ktrTop]); omega) | ktr_room)); (focus (first | exact unit1 (by with_reducible assumption) (by decide) | ((try dsimp only [ktrTop]); omega) | ktr_units)))
  k_with "my value" => (intro t9 h9 tk9 F9 N9; (try dsimp only); (try k_sweep); (try k_fold))
  k_with "my pair" => (intro D9 t9 u9 h9 tk9 F9 N9 l9; (try dsimp only at N9); (try k_lt l9); (try dsimp only); (try k_sweep); (try k_fold))
  k_with "my pair2" => (intro D9 t9 u9 h9 tk9 F9 N9 l9; (try k_lt l9); (try dsimp only); (try k_sweep); (try k_fold))
  k_with "call ref" => (k_here; (with_reducible show wpAny _ _ (call (Value.ref 55) _ _) _ _ _); k_dflt (refine' Cl.use ?_ ?_ ?_ ?_ ?_ ?_ (c_is_signed _ (by assumption) _ _) ?_ ?_ ?_; walk_at "my sides"); walk_at "my value")
  k_with "call ref" => (k_here; (with_reducible show wpAny _ _ (call (Value.ref 62) _ _) _ _ _); k_dflt (refine' Cl.use ?_ ?_ ?_ ?_ ?_ ?_ (c_least _ (by assumption) _ _) ?_ ?_ ?_; walk_at "my sides"); walk_at "my value")
  k_with "call ref" => (k_here; (with_reducible show wpAny _ _ (call (Value.ref 76) _ _) _ _ _); k_dflt (refine' Cl.use ?_ ?_ ?_ ?_ ?_ ?_ (c_fits _ (by assumption) _ _ _ _) ?_ ?_ ?_; walk_at "my sides"); walk_at "my value")
  k_with "call ref" => (k_here; (with_reducible show wpAny _ _ (call (Value.ref 83) _ _) _ _ _); k_dflt (refine' Cl.use ?_ ?_ ?_ ?_ ?_ ?_ (c_wrapped _ (by assumption) _ _ _ _) ?_ ?_ ?_; walk_at "my sides"); walk_at "my value")
  k_with "call ref" => (k_here; (with_reducible show wpAny _ _ (call (Value.ref 97) _ _) _ _ _); k_dflt (refine' Cl.use ?_ ?_ ?_ ?_ ?_ ?_ (c_cutq _ _ (by assumption) (by assumption) _ _ _) ?_ ?_ ?_; walk_at "my sides"); walk_at "my value")
  k_with "binaryOp Add int int" => (k_here; (refine' add_intG  ?_); intro _ _; (try dsimp only))
  k_with "binaryOp Sub int int" => (k_here; (refine' sub_intG  ?_); intro _ _; (try dsimp only))
  k_with "binaryOp Mult int int" => (k_here; (refine' mul_intG ?e0 ?_); (case e0 => with_reducible assumption); intro _ _; (try dsimp only))
  k_with "binaryOp FloorDiv int int" => (k_here; (refine' div_intG ?e0 ?e1 ?_); (case e0 => with_reducible assumption); (case e1 => with_reducible assumption); intro _ _; (try dsimp only))
  k_with "binaryOp Mod int int" => (k_here; (refine' mod_intG ?e0 ?_); (case e0 => with_reducible assumption); intro _ _; (try dsimp only))
  k_with "binaryOp Pow int int" => (k_here; (refine' pow_intG ?e0 ?e1 ?e2 ?_); (case e0 => first | with_reducible assumption | decide); (case e1 => first | with_reducible assumption | decide); (case e2 => decide); intro _ _; (try dsimp only))
  k_with "call ref" => (k_here; (with_reducible show wpAny _ _ (call (Value.ref 104) _ _) _ _ _); k_dflt (refine wpAny_call ?_; refine' code_def ?k1 ?k2 ?k3 ?k4 ?k5 ?kA ?kF ?kK ?k6 ?k7 ?k8 ?k9 ?kB ?_ ?c2 ?c3 ?c4 ?c5; (case kA => exact rfl); (case kF => exact rfl); (case kK => exact rfl); (case k1 => k_asm); (case k2 => k_asm); (case k3 => k_asm); (case k4 => k_asm); (case k5 => k_asm); (case k6 => k_is); (case k7 => k_is); (case k8 => first | exact roomI (by with_reducible assumption) (by decide) | ktr_room); (case k9 => exact BindsTo.of_eq rfl); (case c5 => decide); (case kB => exact locs rfl); (case c2 => exact rfl); (case c3 => exact rfl); (case c4 => exact rfl); k_whole; intro g' L' h' FG' F' N' B' X' T'; (try dsimp only); (try k_lift B'); (try k_fold)))
  trivial
set_option maxRecDepth 100000 in
set_option maxHeartbeats 4000000 in
theorem c_chk_div (i : Nat) (hi : i < 9) (a b : Int) (ha : a.natAbs < 2 ^ 64) (hb : b.natAbs < 2 ^ 64) (h0 : b ≠ 0) (fa : fitsK i a = true) (fb : fitsK i b = true) (t t1 t2 t3: Tok) (news : List (Addr × Obj)) :
    Cl 5 111 news [.str (kn i) t, .str (Str.ofString "/") t1, .int a t2, .int b t3] (fun h₀ L m s Q => RetT h₀ L m news s Q (fun t1 t2 => #[.int (wrapK i (a.tdiv b)) t1, .bool (!fitsK i (a.tdiv b))])) := by
  have q1 := mulOk hb (tdiv_small (b := b) ha) (by decide)
  have q2 : ¬ b = 0 := h0
  intro w mean mg mb dp un gd cn cs a0 ccd cl outer A₀ base h₀ L m s Q E B F X N T hk hd hu hret
  refine wpAny_call ?_
  k_dflt cell_enter
  repeat' (first | (k_unfold; (try dsimp only)) | (k_end; (fail_if_success (with_reducible show Q _ _)); wrow_close) | (k_end; (with_reducible show Q _ _); fail "an end") | walk1 | (dsimp only; walk1) | (leave1; try dsimp only) | fail "no step")
  all_goals first | exact absurd (by assumption) h0 | exact ret_t hret _ 0 (by k_asm) (by k_asm) (by first | assumption | exact lt_of_all (And.right (by assumption)) | exact lt_of_all (And.right (And.right (by assumption))) | exact lt_of_all (And.right (And.right (And.right (by assumption))))) (by repeat (first | exact sub0 | refine subS ?_)) rfl
set_option maxRecDepth 100000 in
set_option maxHeartbeats 4000000 in
theorem c_chk_div0 (i : Nat) (hi : i < 9) (a : Int) (t t1 t2 t3: Tok) (news : List (Addr × Obj)) :
    Cl 5 111 news [.str (kn i) t, .str (Str.ofString "/") t1, .int a t2, .int 0 t3] (fun h₀ L m s Q => RetT h₀ L m news s Q (fun t1 t2 => #[.none, .bool false])) := by
  intro w mean mg mb dp un gd cn cs a0 ccd cl outer A₀ base h₀ L m s Q E B F X N T hk hd hu hret
  refine wpAny_call ?_
  k_dflt cell_enter
  repeat' (first | (k_unfold; (try dsimp only)) | (k_end; (fail_if_success (with_reducible show Q _ _)); wrow_close) | (k_end; (with_reducible show Q _ _); fail "an end") | walk1 | (dsimp only; walk1) | (leave1; try dsimp only) | fail "no step")
  all_goals first | exact ret_t hret 0 0 (by k_asm) (by k_asm) (by first | assumption | exact lt_of_all (And.right (by assumption)) | exact lt_of_all (And.right (And.right (by assumption))) | exact lt_of_all (And.right (And.right (And.right (by assumption))))) (by repeat (first | exact sub0 | refine subS ?_)) rfl
set_option maxRecDepth 100000 in
set_option maxHeartbeats 4000000 in
theorem c_chk_mod (i : Nat) (hi : i < 9) (a b : Int) (ha : a.natAbs < 2 ^ 64) (hb : b.natAbs < 2 ^ 64) (h0 : b ≠ 0) (fa : fitsK i a = true) (fb : fitsK i b = true) (t t1 t2 t3: Tok) (news : List (Addr × Obj)) :
    Cl 5 111 news [.str (kn i) t, .str (Str.ofString "%") t1, .int a t2, .int b t3] (fun h₀ L m s Q => RetT h₀ L m news s Q (fun t1 t2 => #[.int (wrapK i (a - b * a.tdiv b)) t1, .bool (!fitsK i (a.tdiv b))])) := by
  have q1 := mulOk hb (tdiv_small (b := b) ha) (by decide)
  have q2 : ¬ b = 0 := h0
  intro w mean mg mb dp un gd cn cs a0 ccd cl outer A₀ base h₀ L m s Q E B F X N T hk hd hu hret
  refine wpAny_call ?_
  k_dflt cell_enter
  repeat' (first | (k_unfold; (try dsimp only)) | (k_end; (fail_if_success (with_reducible show Q _ _)); wrow_close) | (k_end; (with_reducible show Q _ _); fail "an end") | walk1 | (dsimp only; walk1) | (leave1; try dsimp only) | fail "no step")
  all_goals first | exact absurd (by assumption) h0 | exact ret_t hret _ 0 (by k_asm) (by k_asm) (by first | assumption | exact lt_of_all (And.right (by assumption)) | exact lt_of_all (And.right (And.right (by assumption))) | exact lt_of_all (And.right (And.right (And.right (by assumption))))) (by repeat (first | exact sub0 | refine subS ?_)) (pair_ib (mod_m1 hi (by assumption)) (mod_m1_over hi (by assumption) (by assumption) fa)) | exact ret_t hret _ 0 (by k_asm) (by k_asm) (by first | assumption | exact lt_of_all (And.right (by assumption)) | exact lt_of_all (And.right (And.right (by assumption))) | exact lt_of_all (And.right (And.right (And.right (by assumption))))) (by repeat (first | exact sub0 | refine subS ?_)) (pair_ib rfl (mod_over hi h0 fa fb (fun q => absurd q.1 (by assumption)))) | exact ret_t hret _ 0 (by k_asm) (by k_asm) (by first | assumption | exact lt_of_all (And.right (by assumption)) | exact lt_of_all (And.right (And.right (by assumption))) | exact lt_of_all (And.right (And.right (And.right (by assumption))))) (by repeat (first | exact sub0 | refine subS ?_)) (pair_ib rfl (mod_over hi h0 fa fb (fun q => absurd q.2 (Bool.eq_false_iff.mp (by assumption)))))
set_option maxRecDepth 100000 in
set_option maxHeartbeats 4000000 in
theorem c_chk_mod0 (i : Nat) (hi : i < 9) (a : Int) (t t1 t2 t3: Tok) (news : List (Addr × Obj)) :
    Cl 5 111 news [.str (kn i) t, .str (Str.ofString "%") t1, .int a t2, .int 0 t3] (fun h₀ L m s Q => RetT h₀ L m news s Q (fun t1 t2 => #[.none, .bool false])) := by
  intro w mean mg mb dp un gd cn cs a0 ccd cl outer A₀ base h₀ L m s Q E B F X N T hk hd hu hret
  refine wpAny_call ?_
  k_dflt cell_enter
  repeat' (first | (k_unfold; (try dsimp only)) | (k_end; (fail_if_success (with_reducible show Q _ _)); wrow_close) | (k_end; (with_reducible show Q _ _); fail "an end") | walk1 | (dsimp only; walk1) | (leave1; try dsimp only) | fail "no step")
  all_goals first | exact ret_t hret 0 0 (by k_asm) (by k_asm) (by first | assumption | exact lt_of_all (And.right (by assumption)) | exact lt_of_all (And.right (And.right (by assumption))) | exact lt_of_all (And.right (And.right (And.right (by assumption))))) (by repeat (first | exact sub0 | refine subS ?_)) rfl
end
section
open PySem PySem.W PyProof.Rows
theorem rowsB6a : True := by
  k_with_none
  k_with "my sides" => (rotate_left 7; (focus k_asm); (focus k_asm); (focus k_asm); (focus k_asm); (focus k_asm); (focus (first | exact rfl | assumption)); (focus (first | exact room1 (by with_reducible assumption) (by decide) | ((try dsimp only [ktrTop]); omega) | ktr_room)); (focus (first | exact unit1 (by with_reducible assumption) (by decide) | ((try dsimp only [ktrTop]); omega) | ktr_units)))
  k_with "my value" => (intro t9 h9 tk9 F9 N9; (try dsimp only); (try k_sweep); (try k_fold))
  k_with "my pair" => (intro D9 t9 u9 h9 tk9 F9 N9 l9; (try dsimp only at N9); (try k_lt l9); (try dsimp only); (try k_sweep); (try k_fold))
  k_with "my pair2" => (intro D9 t9 u9 h9 tk9 F9 N9 l9; (try k_lt l9); (try dsimp only); (try k_sweep); (try k_fold))
  k_with "binaryOp Add int int" => (k_here; (refine' add_intG  ?_); intro _ _; (try dsimp only))
  k_with "binaryOp Sub int int" => (k_here; (refine' sub_intG  ?_); intro _ _; (try dsimp only))
  k_with "binaryOp Mult int int" => (k_here; (refine' mul_intG ?e0 ?_); (case e0 => with_reducible assumption); intro _ _; (try dsimp only))
  k_with "binaryOp FloorDiv int int" => (k_here; (refine' div_intG ?e0 ?e1 ?_); (case e0 => with_reducible assumption); (case e1 => with_reducible assumption); intro _ _; (try dsimp only))
  k_with "binaryOp Mod int int" => (k_here; (refine' mod_intG ?e0 ?_); (case e0 => with_reducible assumption); intro _ _; (try dsimp only))
  k_with "binaryOp Pow int int" => (k_here; (refine' pow_intG ?e0 ?e1 ?e2 ?_); (case e0 => first | with_reducible assumption | decide); (case e1 => first | with_reducible assumption | decide); (case e2 => decide); intro _ _; (try dsimp only))
  k_with "call type:int" => (k_here; (with_reducible show wpAny _ _ (call (Value.type "int") [Value.str _ _]) _ _ _); (refine' KIN.call_text (kind_int (by with_reducible assumption) ?e1) (kind_len (by with_reducible assumption)) ?_); (case e1 => with_reducible assumption); (try dsimp only))
  trivial
set_option maxRecDepth 100000 in
set_option maxHeartbeats 4000000 in
theorem c_ends (i : Nat) (hi : i < 9) (t : Tok) (news : List (Addr × Obj)) :
    Cl 1 160 news [.str (kn i) t] (fun h₀ L m s Q => RetT h₀ L m news s Q (fun t1 t2 => #[.int (lowK i) t1, .int (highK i) t2])) := by
  have hb := bK_posI i hi
  have q1 : (0:Int) ≤ bK i - 1 := by omega
  have q2 : (bK i : Int) - 1 ≤ 1000000 := by omega
  have q3 : (0:Int) ≤ bK i := by omega
  have q4 : (bK i : Int) ≤ 1000000 := by omega
  obtain ⟨q6, q5⟩ := kind_size hi
  intro w mean mg mb dp un gd cn cs a0 ccd cl outer A₀ base h₀ L m s Q E B F X N T hk hd hu hret
  refine wpAny_call ?_
  k_dflt cell_enter
  repeat' (first | (k_unfold; (try dsimp only)) | (k_end; (fail_if_success (with_reducible show Q _ _)); wrow_close) | (k_end; (with_reducible show Q _ _); fail "an end") | walk1 | (dsimp only; walk1) | (leave1; try dsimp only) | fail "no step")
  all_goals first | exact ends_lo_u hi (by with_reducible assumption) (by with_reducible assumption) | exact ret_t hret _ _ (by k_asm) (by k_asm) (by first | assumption | exact lt_of_all (And.right (by assumption)) | exact lt_of_all (And.right (And.right (by assumption))) | exact lt_of_all (And.right (And.right (And.right (by assumption))))) (by repeat (first | exact sub0 | refine subS ?_)) (pair_ii (ends_lo_t hi (by with_reducible assumption)) (ends_hi_t hi (by with_reducible assumption))) | exact ret_t hret _ _ (by k_asm) (by k_asm) (by first | assumption | exact lt_of_all (And.right (by assumption)) | exact lt_of_all (And.right (And.right (by assumption))) | exact lt_of_all (And.right (And.right (And.right (by assumption))))) (by repeat (first | exact sub0 | refine subS ?_)) (pair_ii (ends_lo_us hi (by with_reducible assumption)) (ends_hi_us hi (by with_reducible assumption))) | exact ret_t hret _ _ (by k_asm) (by k_asm) (by first | assumption | exact lt_of_all (And.right (by assumption)) | exact lt_of_all (And.right (And.right (by assumption))) | exact lt_of_all (And.right (And.right (And.right (by assumption))))) (by repeat (first | exact sub0 | refine subS ?_)) (pair_ii (ends_lo_f hi (by with_reducible assumption)) (ends_hi_f hi (by with_reducible assumption)))
set_option maxRecDepth 100000 in
set_option maxHeartbeats 4000000 in
theorem c_bits (i : Nat) (hi : i < 9) (t : Tok) (news : List (Addr × Obj)) :
    Cl 1 167 news [.str (kn i) t] (fun h₀ L m s Q => Ret h₀ L m news s Q (fun t => .int (bK i : Int) t)) := by
  have hb := bK_posI i hi
  have q1 : (0:Int) ≤ bK i - 1 := by omega
  have q2 : (bK i : Int) - 1 ≤ 1000000 := by omega
  have q3 : (0:Int) ≤ bK i := by omega
  have q4 : (bK i : Int) ≤ 1000000 := by omega
  obtain ⟨q6, q5⟩ := kind_size hi
  intro w mean mg mb dp un gd cn cs a0 ccd cl outer A₀ base h₀ L m s Q E B F X N T hk hd hu hret
  refine wpAny_call ?_
  k_dflt cell_enter
  repeat' (first | (k_unfold; (try dsimp only)) | (k_end; (fail_if_success (with_reducible show Q _ _)); wrow_close) | (k_end; (with_reducible show Q _ _); fail "an end") | walk1 | (dsimp only; walk1) | (leave1; try dsimp only) | fail "no step")
  all_goals first | exact ret_i hret (bits_us hi (by with_reducible assumption)) (by k_asm) (by k_asm) (by repeat (first | exact sub0 | refine subS ?_)) | exact ret_i hret rfl (by k_asm) (by k_asm) (by repeat (first | exact sub0 | refine subS ?_))
theorem rowsB6b : True := by
  k_with "call ref" => (k_here; (with_reducible show wpAny _ _ (call (Value.ref 160) _ _) _ _ _); k_dflt (refine' Cl.use ?_ ?_ ?_ ?_ ?_ ?_ (c_ends _ (by assumption) _ _) ?_ ?_ ?_; walk_at "my sides"); walk_at "my pair")
  k_with "call ref" => (k_here; (with_reducible show wpAny _ _ (call (Value.ref 167) _ _) _ _ _); k_dflt (refine' Cl.use ?_ ?_ ?_ ?_ ?_ ?_ (c_bits _ (by assumption) _ _) ?_ ?_ ?_; walk_at "my sides"); walk_at "my value")
  trivial
set_option maxRecDepth 100000 in
set_option maxHeartbeats 4000000 in
theorem c_lowest (i : Nat) (hi : i < 9) (x : Int) (t t' : Tok) (news : List (Addr × Obj)) :
    Cl 2 174 news [.str (kn i) t, .int x t'] (fun h₀ L m s Q => Ret h₀ L m news s Q (fun t => .int (wrapK i x) t)) := by
  have hb := bK_posI i hi
  have q1 : (0:Int) ≤ bK i := by omega
  have q2 : (bK i : Int) ≤ 1000000 := by omega
  intro w mean mg mb dp un gd cn cs a0 ccd cl outer A₀ base h₀ L m s Q E B F X N T hk hd hu hret
  refine wpAny_call ?_
  k_dflt cell_enter
  repeat' (first | (k_unfold; (try dsimp only)) | (k_end; (fail_if_success (with_reducible show Q _ _)); wrow_close) | (k_end; (with_reducible show Q _ _); fail "an end") | walk1 | (dsimp only; walk1) | (leave1; try dsimp only) | fail "no step")
  all_goals first | exact ret_i hret (lowest_t hi (by with_reducible assumption)) (by k_asm) (by k_asm) (by repeat (first | exact sub0 | refine subS ?_)) | exact ret_i hret (lowest_f hi (by with_reducible assumption)) (by k_asm) (by k_asm) (by repeat (first | exact sub0 | refine subS ?_))
theorem rowsB6c : True := by
  k_with "call ref" => (k_here; (with_reducible show wpAny _ _ (call (Value.ref 174) _ _) _ _ _); k_dflt (refine' Cl.use ?_ ?_ ?_ ?_ ?_ ?_ (c_lowest _ (by assumption) _ _ _ _) ?_ ?_ ?_; walk_at "my sides"); walk_at "my value")
  trivial
set_option maxRecDepth 100000 in
set_option maxHeartbeats 4000000 in
theorem c_quot (a b : Int) (h0 : b ≠ 0) (ha : a.natAbs < 2 ^ 64) (hb : b.natAbs < 2 ^ 64) (t t' : Tok) (news : List (Addr × Obj)) :
    Cl 1 188 news [.int a t, .int b t'] (fun h₀ L m s Q => Ret h₀ L m news s Q (fun t => .int (a.tdiv b) t)) := by
  have q1 := log2_small hb
  have q2 := mulOk (Nat.lt_of_le_of_lt (PySem.natAbs_fdiv_le a b) ha) hb (by decide)
  intro w mean mg mb dp un gd cn cs a0 ccd cl outer A₀ base h₀ L m s Q E B F X N T hk hd hu hret
  refine wpAny_call ?_
  k_dflt cell_enter
  repeat' (first | (k_unfold; (try dsimp only)) | (k_end; (fail_if_success (with_reducible show Q _ _)); wrow_close) | (k_end; (with_reducible show Q _ _); fail "an end") | walk1 | (dsimp only; walk1) | (leave1; try dsimp only) | fail "no step")
  all_goals first | exact ret_i hret (quot_t h0 (by with_reducible assumption)) (by k_asm) (by k_asm) (by repeat (first | exact sub0 | refine subS ?_)) | exact ret_i hret (quot_f h0 (by with_reducible assumption)) (by k_asm) (by k_asm) (by repeat (first | exact sub0 | refine subS ?_))
end
section
open PySem PySem.W PyProof.Rows PySem.Calls PySem.Spec
open LCg LCt
section
variable {prog : Program} {w : World} {A : Around} {E : Value → Shared → Prop} {s : Shared} {h₀ : Heap} {L : Addr} {m : Str → Option Value} {env : Env}
/-- the source of a comprehension is a made dict keyed by strs -/
def SrcDict (prog : Program) (w : World) (A : Around) (h₀ : Heap) (L : Addr) (m : Str → Option Value) (env : Env) (ct elt : Expr) (x : Str) (scope : Scope) (cl : List (Str × Addr)) (Fin : Shared → List Value → List (Addr × Obj) → Prop) (xv : Value) (s₁ : Shared) : Prop :=
  ∃ d od kvs news, xv = .ref d ∧ A.handled = none ∧ Fr h₀ L s₁.heap m ∧ News h₀ L s₁.heap news ∧ (d, od) ∈ news ∧ od.IsDictOf (PySem.strKind prog w) kvs ∧ (d == sysModules) = false ∧ kvs.length ≤ sizeLine ∧
    ∀ s₂ : Shared, (∃ h, s₂ = { s₁ with heap := h }) → CompRestT prog w A h₀ L m env ct elt x scope cl s₂ (fun nw => (d, od) ∈ nw) (fun i v => ∃ k y, kvs[i]? = some (k, y) ∧ (PySem.strKind prog w).is k v = true) (Fin s₂) kvs.length 0 [] news
theorem comp_dict {ct elt iter : Expr} {x : Str} {px : Pos} {scope : Scope} {cl : List (Str × Addr)} {pos : Pos} {Q : Value → Shared → Prop} (_F₀ : Fr h₀ L s.heap m)
    (hclos : closureFor scope env = pure cl) (hcell : ∀ y ∈ scope.names, y.2 ≠ .cell) (hkind : scope.kind = .function)
    (hnames : ∀ y ∈ scope.names, y.2 = .local → scope.names.lookup y.1 = some .local) (hx : scope.names.lookup x = some .local)
    (h : wpAny (model prog w) A (eval iter env) (SrcDict prog w A h₀ L m env ct elt x scope cl (fun s₂ => FinE h₀ L m s₂ Q)) E s)
    (hs : ∀ x, foldedSetIterable iter env x = pure x := by intro _; rfl) :
    wpAny (model prog w) A (eval (.ListComp elt [⟨.Name x px, iter, [ct], 0⟩] scope pos) env) Q E s := by
  rw [eval_ListComp]
  refine wpAny_comprehension_free (use := none) rfl hs hclos hkind hnames (wpAny_mono h (fun xv s₁ h₁ => ?_) fun _ _ e => e)
  obtain ⟨d, od, kvs, news, rfl, hh, F, N, hm, hd, lo, hsz, R⟩ := h₁
  obtain ⟨ep, ha⟩ := KdkAt.of hd
  have hda := ha.dictAt (N _ hm).1
  have hdn : ∀ nw h, News h₀ L h nw → (d, od) ∈ nw → h.DictAt (PySem.strKind prog w) d kvs ep := fun nw h N hm => ha.dictAt (N _ hm).1
  have hlt : d < s₁.heap.objs.size := Heap.lt_size (N _ hm).1
  refine wpAny_pyIter_dict lo hda ?_
  refine block_T (Walks.dictKeys hh s₁.heap.objs.size d (Nat.ne_of_lt hlt) kvs ep) hsz (fun i h st => by obtain ⟨o, e, _⟩ := st.1; exact ⟨o, e⟩) (fun i h h' o nw st e e' kp N' hS => ?_) hcell hkind hx ⟨⟨_, Heap.get?_push_size _ rfl, rfl, rfl⟩, hda.push _⟩ (fun b hb => ?_)
      (F.keeps fun _ _ e => Heap.get?_push_of_some _ e) (N.grown fun _ _ e => Heap.get?_push_of_some _ e) (Nat.ne_of_lt F.ns.lt) (next_is_new F) (fun p hp => Nat.ne_of_lt (Heap.lt_size (N p hp).1)) hm (R _ ⟨_, rfl⟩) ?_
  · exact ⟨st.1.at fun o₁ e₁ => by rw [e] at e₁; rw [← Option.some.inj e₁]; exact e', hdn _ _ N' hS⟩
  · show b < (s₁.heap.push _).objs.size
    rw [Heap.size_push]
    rcases List.mem_cons.mp hb with rfl | hb
    · exact Nat.lt_succ_self _
    · rw [List.mem_singleton.mp hb]; exact Nat.lt_succ_of_lt hlt
  · intro D C h tk m' ys news' F' N' o1 hn hC₀ hD₀ hCL hDL hCD offC fin
    refine ⟨m', hn, fun h'' hs'' => fin D h'' tk (F'.change hs'' hCL hC₀) (fun p hp => ?_) o1⟩
    refine ⟨hs''.extBut _ _ ?_ (N' p hp).1, (N' p hp).2⟩
    rcases List.mem_cons.mp hp with rfl | hp
    · exact Ne.symm hCD
    · exact offC p hp
end
theorem compEnd_same {h₀ : Heap} {L I C D : Addr} {m : Str → Option Value} {s₁ : Shared} {oI oC oD : Obj} {S : List (Addr × Obj) → Prop} {rest : Value → List (Addr × Obj) → Prop} {y : Value} {h' : Heap} {tk : Nat} {news' : List (Addr × Obj)}
    (F : Fr h₀ L h' m) (N : News h₀ L h' ((I, oI) :: (C, oC) :: (D, oD) :: news')) (off : Off3 I C D news') (hS : S news') (r : rest y news') :
    CompEnd h₀ L m s₁ I oI C oC D oD S rest y { s₁ with heap := h', toks := tk } := ⟨h', tk, news', rfl, F, N, off, hS, r⟩
/-- a turn of a comprehension whose test fails: what it leaves -/
def TurnEnd (h₀ : Heap) (L : Addr) (m : Str → Option Value) (s₁ : Shared) (all : List (Addr × Obj)) (ok : Bool) (s₂ : Shared) : Prop :=
  ok = false ∧ ∃ h' tk, s₂ = { s₁ with heap := h', toks := tk } ∧ Fr h₀ L h' m ∧ News h₀ L h' all
theorem TurnEnd.intro {h₀ : Heap} {L : Addr} {m : Str → Option Value} {s₁ : Shared} {all : List (Addr × Obj)} {h' : Heap} {tk : Nat} (F : Fr h₀ L h' m) (N : News h₀ L h' all) : TurnEnd h₀ L m s₁ all false { s₁ with heap := h', toks := tk } := ⟨rfl, h', tk, rfl, F, N⟩
theorem rest_skip {prog : Program} {w : World} {A : Around} {h₀ : Heap} {L : Addr} {m : Str → Option Value} {env : Env} {ct elt : Expr} {x : Str} {scope : Scope} {cl : List (Str × Addr)} {s : Shared} {S : List (Addr × Obj) → Prop} {P : Nat → Value → Prop} {Fin : List Value → List (Addr × Obj) → Prop} {k i : Nat} {ys : List Value} {news : List (Addr × Obj)}
    (hS : S news)
    (turn : ∀ v I oI C oC D m₂ h tk (E' : Value → Shared → Prop), P i v → NsObj oC m₂ → m₂ x = some v → Fr h₀ L h m → News h₀ L h ((I, oI) :: (C, oC) :: (D, lst ys) :: news) → Off3 I C D news → ((@Ne Nat I C) ∧ (@Ne Nat I D) ∧ (@Ne Nat C D)) →
      wpAny (model prog w) A (isTrue ct (compEnvC scope cl C env) (eval ct (compEnvC scope cl C env))) (TurnEnd h₀ L m { s with heap := h, toks := tk } ((I, oI) :: (C, oC) :: (D, lst ys) :: news)) E' { s with heap := h, toks := tk })
    (next : CompRestT prog w A h₀ L m env ct elt x scope cl s S P Fin k (i + 1) ys news) :
    CompRestT prog w A h₀ L m env ct elt x scope cl s S P Fin (k + 1) i ys news := by
  refine LCt.CompRestT.succ fun v I oI C oC D m₂ h tk E' hv hC hx F N off ne => ?_
  refine wpAny_mono (turn v I oI C oC D m₂ h tk E' hv hC hx F N off ne) (fun ok s₂ ht => ?_) fun _ _ e => e
  obtain ⟨rfl, h', tk', rfl, F', N'⟩ := ht
  simp only [Bool.false_eq_true, if_false]
  exact ⟨h', tk', news, rfl, F', N', off, hS, next⟩
theorem ne_bool_same {prog : Program} {w : World} {A : Around} {E : Value → Shared → Prop} {s : Shared} {c d : Bool} {Q : Value → Shared → Prop} (e : c = d) (h : Q (.bool false) s) : wpAny (model prog w) A (compareOp .NotEq (.bool c) (.bool d)) Q E s := by
  subst e
  exact ne_bool (by simpa using h)
theorem le_not_lt (a b : Int) : decide (a ≤ b) = !decide (b < a) := by
  by_cases h : a ≤ b
  · simp [h]
  · simp [h]; omega
section
variable {prog : Program} {w : World} {A : Around} {E : Value → Shared → Prop} {s : Shared} {h₀ : Heap} {L D D' : Addr} {news : List (Addr × Obj)} {Q : Value → Shared → Prop}
theorem reads_tup {xs : Array Value} {ds : List PyData} (N : News h₀ L s.heap news) (h : (D, ({ cls := .type "tuple", data := .seq xs } : Obj)) ∈ news) (r : ReadsAll s.heap xs.toList ds []) : Reads s.heap (.ref D) (.tuple ds) [] :=
  reads_tuple_at (News.get N h) rfl rfl r
theorem ne_pair_ib {v v' : Int} {b b' : Bool} {t t' : Tok} (N : News h₀ L s.heap news) (h1 : (D, ({ cls := .type "tuple", data := .seq #[.int v t, .bool b] } : Obj)) ∈ news) (h2 : (D', ({ cls := .type "tuple", data := .seq #[.int v' t', .bool b'] } : Obj)) ∈ news)
    (hu : A.units + 64 < cLine) (e1 : v = v') (e2 : b = b') (h : Q (.bool false) s) : wpAny (model prog w) A (compareOp .NotEq (.ref D) (.ref D')) Q E s := by
  subst e1; subst e2
  refine ne_dataH (reads_tup N h1 (ReadsAll.cons (Reads.int v t) (ReadsAll.cons (Reads.bool b) ReadsAll.nil))) (reads_tup N h2 (ReadsAll.cons (Reads.int v t') (ReadsAll.cons (Reads.bool b) ReadsAll.nil))) rfl rfl hu ?_
  simp only [PyData.eqv, PyData.eqvAll, beq_self_eq_true, Bool.and_self, Bool.not_true]
  exact h
theorem ne_pair_ii {v v' x x' : Int} {t t' u u' : Tok} (N : News h₀ L s.heap news) (h1 : (D, ({ cls := .type "tuple", data := .seq #[.int v t, .int x u] } : Obj)) ∈ news) (h2 : (D', ({ cls := .type "tuple", data := .seq #[.int v' t', .int x' u'] } : Obj)) ∈ news)
    (hu : A.units + 64 < cLine) (e1 : v = v') (e2 : x = x') (h : Q (.bool false) s) : wpAny (model prog w) A (compareOp .NotEq (.ref D) (.ref D')) Q E s := by
  subst e1; subst e2
  refine ne_dataH (reads_tup N h1 (ReadsAll.cons (Reads.int v t) (ReadsAll.cons (Reads.int x u) ReadsAll.nil))) (reads_tup N h2 (ReadsAll.cons (Reads.int v t') (ReadsAll.cons (Reads.int x u') ReadsAll.nil))) rfl rfl hu ?_
  simp only [PyData.eqv, PyData.eqvAll, beq_self_eq_true, Bool.and_self, Bool.not_true]
  exact h
theorem ne_pair_n (N : News h₀ L s.heap news) (h1 : (D, ({ cls := .type "tuple", data := .seq #[.none, .bool false] } : Obj)) ∈ news) (h2 : (D', ({ cls := .type "tuple", data := .seq #[.none, .bool false] } : Obj)) ∈ news)
    (hu : A.units + 64 < cLine) (h : Q (.bool false) s) : wpAny (model prog w) A (compareOp .NotEq (.ref D) (.ref D')) Q E s := by
  refine ne_dataH (reads_tup N h1 (ReadsAll.cons Reads.none (ReadsAll.cons (Reads.bool false) ReadsAll.nil))) (reads_tup N h2 (ReadsAll.cons Reads.none (ReadsAll.cons (Reads.bool false) ReadsAll.nil))) rfl rfl hu ?_
  simp only [PyData.eqv, PyData.eqvAll, beq_self_eq_true, Bool.and_self, Bool.not_true]
  exact h
theorem eq_nils {n n' : Nat} (N : News h₀ L s.heap news) (h1 : (D, ({ cls := .type "list", data := .seq #[] n } : Obj)) ∈ news) (h2 : (D', ({ cls := .type "list", data := .seq #[] n' } : Obj)) ∈ news)
    (hu : A.units + 64 < cLine) (h : Q (.bool true) s) : wpAny (model prog w) A (compareOp .Eq (.ref D) (.ref D')) Q E s := by
  refine eq_dataH (reads_list_at (News.get N h1) rfl rfl ReadsAll.nil) (reads_list_at (News.get N h2) rfl rfl ReadsAll.nil) rfl rfl hu ?_
  simp only [PyData.eqv, PyData.eqvAll]
  exact h
end
theorem key_at {prog : Program} {w : World} {kvs : List (Str × Value)} {i : Nat} {v : Value} (h : ∃ k y, kvs[i]? = some (k, y) ∧ (PySem.strKind prog w).is k v = true) {k₀ : Str} {y₀ : Value} (e : kvs[i]? = some (k₀, y₀)) : ∃ t, v = .str k₀ t := by
  obtain ⟨k, y, e', hk⟩ := h
  rw [e] at e'
  cases e'
  exact PySem.Value.isStrOf_shape hk
end
section
open PySem PySem.W PyProof.Rows
theorem rowsB7a : True := by
  k_with_none
  k_with "my sides" => (rotate_left 7; (focus k_asm); (focus k_asm); (focus k_asm); (focus k_asm); (focus k_asm); (focus (first | exact rfl | assumption)); (focus (first | exact room1 (by with_reducible assumption) (by decide) | ((try dsimp only [ktrTop]); omega) | ktr_room)); (focus (first | exact unit1 (by with_reducible assumption) (by decide) | ((try dsimp only [ktrTop]); omega) | ktr_units)))
  k_with "my value" => (intro t9 h9 tk9 F9 N9; (try dsimp only); (try k_sweep); (try k_fold))
  k_with "my pair" => (intro D9 t9 u9 h9 tk9 F9 N9 l9; (try dsimp only at N9); (try k_lt l9); (try dsimp only); (try k_sweep); (try k_fold))
  k_with "my pair2" => (intro D9 t9 u9 h9 tk9 F9 N9 l9; (try k_lt l9); (try dsimp only); (try k_sweep); (try k_fold))
  k_with "binaryOp Add int int" => (k_here; (refine' add_intG  ?_); intro _ _; (try dsimp only))
  k_with "binaryOp Sub int int" => (k_here; (refine' sub_intG  ?_); intro _ _; (try dsimp only))
  k_with "binaryOp Mult int int" => (k_here; (refine' mul_intG ?e0 ?_); (case e0 => with_reducible assumption); intro _ _; (try dsimp only))
  k_with "binaryOp FloorDiv int int" => (k_here; (refine' div_intG ?e0 ?e1 ?_); (case e0 => with_reducible assumption); (case e1 => with_reducible assumption); intro _ _; (try dsimp only))
  k_with "binaryOp Mod int int" => (k_here; (refine' mod_intG ?e0 ?_); (case e0 => with_reducible assumption); intro _ _; (try dsimp only))
  k_with "binaryOp Pow int int" => (k_here; (refine' pow_intG ?e0 ?e1 ?e2 ?_); (case e0 => first | with_reducible assumption | decide); (case e1 => first | with_reducible assumption | decide); (case e2 => decide); intro _ _; (try dsimp only))
  k_with "call ref" => (k_here; (with_reducible show wpAny _ _ (call (Value.ref 160) _ _) _ _ _); k_dflt (refine' Cl.use ?_ ?_ ?_ ?_ ?_ ?_ (c_ends _ (by assumption) _ _) ?_ ?_ ?_; walk_at "my sides"); walk_at "my pair")
  k_with "call ref" => (k_here; (with_reducible show wpAny _ _ (call (Value.ref 167) _ _) _ _ _); k_dflt (refine' Cl.use ?_ ?_ ?_ ?_ ?_ ?_ (c_bits _ (by assumption) _ _) ?_ ?_ ?_; walk_at "my sides"); walk_at "my value")
  k_with "call ref" => (k_here; (with_reducible show wpAny _ _ (call (Value.ref 174) _ _) _ _ _); k_dflt (refine' Cl.use ?_ ?_ ?_ ?_ ?_ ?_ (c_lowest _ (by assumption) _ _ _ _) ?_ ?_ ?_; walk_at "my sides"); walk_at "my value")
  k_with "call ref" => (k_here; (with_reducible show wpAny _ _ (call (Value.ref 188) _ _) _ _ _); k_dflt (refine' Cl.use ?_ ?_ ?_ ?_ ?_ ?_ (c_quot _ _ (by assumption) (by assumption) (by assumption) _ _ _) ?_ ?_ ?_; walk_at "my sides"); walk_at "my value")
  trivial
set_option maxRecDepth 100000 in
set_option maxHeartbeats 4000000 in
theorem c_due_add (i : Nat) (hi : i < 9) (a b : Int) (ha : a.natAbs < 2 ^ 64) (hb : b.natAbs < 2 ^ 64) (t t1 t2 t3: Tok) (news : List (Addr × Obj)) :
    Cl 3 202 news [.str (kn i) t, .str (Str.ofString "+") t1, .int a t2, .int b t3] (fun h₀ L m s Q => RetT h₀ L m news s Q (fun t1 t2 => #[.int (wrapK i (a + b)) t1, .bool (!fitsK i (a + b))])) := by
  have q1 := mulOk ha hb (by decide)
  intro w mean mg mb dp un gd cn cs a0 ccd cl outer A₀ base h₀ L m s Q E B F X N T hk hd hu hret
  refine wpAny_call ?_
  k_dflt cell_enter
  repeat' (first | (k_unfold; (try dsimp only)) | (k_end; (fail_if_success (with_reducible show Q _ _)); wrow_close) | (k_end; (with_reducible show Q _ _); fail "an end") | walk1 | (dsimp only; walk1) | (leave1; try dsimp only) | fail "no step")
  all_goals first | exact ret_t hret _ 0 (by k_asm) (by k_asm) (by first | assumption | exact lt_of_all (And.right (by assumption)) | exact lt_of_all (And.right (And.right (by assumption))) | exact lt_of_all (And.right (And.right (And.right (by assumption))))) (by repeat (first | exact sub0 | refine subS ?_)) (pair_ib rfl (notfits_t (by with_reducible assumption))) | exact ret_t hret _ 0 (by k_asm) (by k_asm) (by first | assumption | exact lt_of_all (And.right (by assumption)) | exact lt_of_all (And.right (And.right (by assumption))) | exact lt_of_all (And.right (And.right (And.right (by assumption))))) (by repeat (first | exact sub0 | refine subS ?_)) (pair_ib rfl (notfits_f (by with_reducible assumption)))
set_option maxRecDepth 100000 in
set_option maxHeartbeats 4000000 in
theorem c_due_sub (i : Nat) (hi : i < 9) (a b : Int) (ha : a.natAbs < 2 ^ 64) (hb : b.natAbs < 2 ^ 64) (t t1 t2 t3: Tok) (news : List (Addr × Obj)) :
    Cl 3 202 news [.str (kn i) t, .str (Str.ofString "-") t1, .int a t2, .int b t3] (fun h₀ L m s Q => RetT h₀ L m news s Q (fun t1 t2 => #[.int (wrapK i (a - b)) t1, .bool (!fitsK i (a - b))])) := by
  have q1 := mulOk ha hb (by decide)
  intro w mean mg mb dp un gd cn cs a0 ccd cl outer A₀ base h₀ L m s Q E B F X N T hk hd hu hret
  refine wpAny_call ?_
  k_dflt cell_enter
  repeat' (first | (k_unfold; (try dsimp only)) | (k_end; (fail_if_success (with_reducible show Q _ _)); wrow_close) | (k_end; (with_reducible show Q _ _); fail "an end") | walk1 | (dsimp only; walk1) | (leave1; try dsimp only) | fail "no step")
  all_goals first | exact ret_t hret _ 0 (by k_asm) (by k_asm) (by first | assumption | exact lt_of_all (And.right (by assumption)) | exact lt_of_all (And.right (And.right (by assumption))) | exact lt_of_all (And.right (And.right (And.right (by assumption))))) (by repeat (first | exact sub0 | refine subS ?_)) (pair_ib rfl (notfits_t (by with_reducible assumption))) | exact ret_t hret _ 0 (by k_asm) (by k_asm) (by first | assumption | exact lt_of_all (And.right (by assumption)) | exact lt_of_all (And.right (And.right (by assumption))) | exact lt_of_all (And.right (And.right (And.right (by assumption))))) (by repeat (first | exact sub0 | refine subS ?_)) (pair_ib rfl (notfits_f (by with_reducible assumption)))
set_option maxRecDepth 100000 in
set_option maxHeartbeats 4000000 in
theorem c_due_mul (i : Nat) (hi : i < 9) (a b : Int) (ha : a.natAbs < 2 ^ 64) (hb : b.natAbs < 2 ^ 64) (t t1 t2 t3: Tok) (news : List (Addr × Obj)) :
    Cl 3 202 news [.str (kn i) t, .str (Str.ofString "*") t1, .int a t2, .int b t3] (fun h₀ L m s Q => RetT h₀ L m news s Q (fun t1 t2 => #[.int (wrapK i (a * b)) t1, .bool (!fitsK i (a * b))])) := by
  have q1 := mulOk ha hb (by decide)
  intro w mean mg mb dp un gd cn cs a0 ccd cl outer A₀ base h₀ L m s Q E B F X N T hk hd hu hret
  refine wpAny_call ?_
  k_dflt cell_enter
  repeat' (first | (k_unfold; (try dsimp only)) | (k_end; (fail_if_success (with_reducible show Q _ _)); wrow_close) | (k_end; (with_reducible show Q _ _); fail "an end") | walk1 | (dsimp only; walk1) | (leave1; try dsimp only) | fail "no step")
  all_goals first | exact ret_t hret _ 0 (by k_asm) (by k_asm) (by first | assumption | exact lt_of_all (And.right (by assumption)) | exact lt_of_all (And.right (And.right (by assumption))) | exact lt_of_all (And.right (And.right (And.right (by assumption))))) (by repeat (first | exact sub0 | refine subS ?_)) (pair_ib rfl (notfits_t (by with_reducible assumption))) | exact ret_t hret _ 0 (by k_asm) (by k_asm) (by first | assumption | exact lt_of_all (And.right (by assumption)) | exact lt_of_all (And.right (And.right (by assumption))) | exact lt_of_all (And.right (And.right (And.right (by assumption))))) (by repeat (first | exact sub0 | refine subS ?_)) (pair_ib rfl (notfits_f (by with_reducible assumption)))
set_option maxRecDepth 100000 in
set_option maxHeartbeats 4000000 in
theorem c_due_div (i : Nat) (hi : i < 9) (a b : Int) (ha : a.natAbs < 2 ^ 64) (hb : b.natAbs < 2 ^ 64) (h0 : b ≠ 0) (t t1 t2 t3: Tok) (news : List (Addr × Obj)) :
    Cl 3 202 news [.str (kn i) t, .str (Str.ofString "/") t1, .int a t2, .int b t3] (fun h₀ L m s Q => RetT h₀ L m news s Q (fun t1 t2 => #[.int (wrapK i (a.tdiv b)) t1, .bool (!fitsK i (a.tdiv b))])) := by
  have q1 := mulOk hb (tdiv_small (b := b) ha) (by decide)
  have q2 : ¬ b = 0 := h0
  intro w mean mg mb dp un gd cn cs a0 ccd cl outer A₀ base h₀ L m s Q E B F X N T hk hd hu hret
  refine wpAny_call ?_
  k_dflt cell_enter
  repeat' (first | (k_unfold; (try dsimp only)) | (k_end; (fail_if_success (with_reducible show Q _ _)); wrow_close) | (k_end; (with_reducible show Q _ _); fail "an end") | walk1 | (dsimp only; walk1) | (leave1; try dsimp only) | fail "no step")
  all_goals first | exact absurd (by assumption) h0 | exact ret_t hret _ 0 (by k_asm) (by k_asm) (by first | assumption | exact lt_of_all (And.right (by assumption)) | exact lt_of_all (And.right (And.right (by assumption))) | exact lt_of_all (And.right (And.right (And.right (by assumption))))) (by repeat (first | exact sub0 | refine subS ?_)) (pair_ib rfl (notfits_t (by with_reducible assumption))) | exact ret_t hret _ 0 (by k_asm) (by k_asm) (by first | assumption | exact lt_of_all (And.right (by assumption)) | exact lt_of_all (And.right (And.right (by assumption))) | exact lt_of_all (And.right (And.right (And.right (by assumption))))) (by repeat (first | exact sub0 | refine subS ?_)) (pair_ib rfl (notfits_f (by with_reducible assumption)))
set_option maxRecDepth 100000 in
set_option maxHeartbeats 4000000 in
theorem c_due_div0 (i : Nat) (hi : i < 9) (a : Int) (t t1 t2 t3: Tok) (news : List (Addr × Obj)) :
    Cl 3 202 news [.str (kn i) t, .str (Str.ofString "/") t1, .int a t2, .int 0 t3] (fun h₀ L m s Q => RetT h₀ L m news s Q (fun t1 t2 => #[.none, .bool false])) := by
  intro w mean mg mb dp un gd cn cs a0 ccd cl outer A₀ base h₀ L m s Q E B F X N T hk hd hu hret
  refine wpAny_call ?_
  k_dflt cell_enter
  repeat' (first | (k_unfold; (try dsimp only)) | (k_end; (fail_if_success (with_reducible show Q _ _)); wrow_close) | (k_end; (with_reducible show Q _ _); fail "an end") | walk1 | (dsimp only; walk1) | (leave1; try dsimp only) | fail "no step")
  all_goals first | exact ret_t hret 0 0 (by k_asm) (by k_asm) (by first | assumption | exact lt_of_all (And.right (by assumption)) | exact lt_of_all (And.right (And.right (by assumption))) | exact lt_of_all (And.right (And.right (And.right (by assumption))))) (by repeat (first | exact sub0 | refine subS ?_)) rfl
set_option maxRecDepth 100000 in
set_option maxHeartbeats 4000000 in
theorem c_due_mod (i : Nat) (hi : i < 9) (a b : Int) (ha : a.natAbs < 2 ^ 64) (hb : b.natAbs < 2 ^ 64) (h0 : b ≠ 0) (t t1 t2 t3: Tok) (news : List (Addr × Obj)) :
    Cl 3 202 news [.str (kn i) t, .str (Str.ofString "%") t1, .int a t2, .int b t3] (fun h₀ L m s Q => RetT h₀ L m news s Q (fun t1 t2 => #[.int (wrapK i (a - b * a.tdiv b)) t1, .bool (!fitsK i (a.tdiv b))])) := by
  have q1 := mulOk hb (tdiv_small (b := b) ha) (by decide)
  have q2 : ¬ b = 0 := h0
  intro w mean mg mb dp un gd cn cs a0 ccd cl outer A₀ base h₀ L m s Q E B F X N T hk hd hu hret
  refine wpAny_call ?_
  k_dflt cell_enter
  repeat' (first | (k_unfold; (try dsimp only)) | (k_end; (fail_if_success (with_reducible show Q _ _)); wrow_close) | (k_end; (with_reducible show Q _ _); fail "an end") | walk1 | (dsimp only; walk1) | (leave1; try dsimp only) | fail "no step")
  all_goals first | exact absurd (by assumption) h0 | exact ret_t hret _ 0 (by k_asm) (by k_asm) (by first | assumption | exact lt_of_all (And.right (by assumption)) | exact lt_of_all (And.right (And.right (by assumption))) | exact lt_of_all (And.right (And.right (And.right (by assumption))))) (by repeat (first | exact sub0 | refine subS ?_)) (pair_ib rfl (notfits_t (by with_reducible assumption))) | exact ret_t hret _ 0 (by k_asm) (by k_asm) (by first | assumption | exact lt_of_all (And.right (by assumption)) | exact lt_of_all (And.right (And.right (by assumption))) | exact lt_of_all (And.right (And.right (And.right (by assumption))))) (by repeat (first | exact sub0 | refine subS ?_)) (pair_ib rfl (notfits_f (by with_reducible assumption)))
set_option maxRecDepth 100000 in
set_option maxHeartbeats 4000000 in
theorem c_due_mod0 (i : Nat) (hi : i < 9) (a : Int) (t t1 t2 t3: Tok) (news : List (Addr × Obj)) :
    Cl 3 202 news [.str (kn i) t, .str (Str.ofString "%") t1, .int a t2, .int 0 t3] (fun h₀ L m s Q => RetT h₀ L m news s Q (fun t1 t2 => #[.none, .bool false])) := by
  intro w mean mg mb dp un gd cn cs a0 ccd cl outer A₀ base h₀ L m s Q E B F X N T hk hd hu hret
  refine wpAny_call ?_
  k_dflt cell_enter
  repeat' (first | (k_unfold; (try dsimp only)) | (k_end; (fail_if_success (with_reducible show Q _ _)); wrow_close) | (k_end; (with_reducible show Q _ _); fail "an end") | walk1 | (dsimp only; walk1) | (leave1; try dsimp only) | fail "no step")
  all_goals first | exact ret_t hret 0 0 (by k_asm) (by k_asm) (by first | assumption | exact lt_of_all (And.right (by assumption)) | exact lt_of_all (And.right (And.right (by assumption))) | exact lt_of_all (And.right (And.right (And.right (by assumption))))) (by repeat (first | exact sub0 | refine subS ?_)) rfl
set_option maxRecDepth 100000 in
set_option maxHeartbeats 4000000 in
theorem c_mov_shl (i : Nat) (hi : i < 9) (a n : Int) (ha : a.natAbs < 2 ^ 64) (fa : fitsK i a = true) (t t1 t2 t3: Tok) (news : List (Addr × Obj)) :
    Cl 3 209 news [.str (kn i) t, .str (Str.ofString "<<") t1, .int a t2, .int n t3] (fun h₀ L m s Q => RetT h₀ L m news s Q (fun t1 t2 => #[.int (wrapK i (a * 2 ^ (n.fmod ↑(bK i)).toNat)) t1, .bool (!(decide (0 ≤ n ∧ n < bK i)))])) := by
  have hb := bK_posI i hi
  have q1 : 0 ≤ n.fmod ↑(bK i) := Int.fmod_nonneg_of_pos _ (by omega)
  have q2 : n.fmod ↑(bK i) < ↑(bK i) := Int.fmod_lt_of_pos _ (by omega)
  have q3 : n.fmod ↑(bK i) ≤ 1000000 := by omega
  have q0 : (bK i : Int) ≠ 0 := by omega
  have q4 := pow_fits (n.fmod ↑(bK i)) q1 (by omega)
  have q5 := mulOk ha q4.1 (by decide)
  have q6 := q4.2.1
  have q7 := q4.2.2
  have q8 : (0:Int) ≤ 2 ^ (n.fmod ↑(bK i)).toNat := pow_nn _
  intro w mean mg mb dp un gd cn cs a0 ccd cl outer A₀ base h₀ L m s Q E B F X N T hk hd hu hret
  refine wpAny_call ?_
  k_dflt cell_enter
  repeat' (first | (k_unfold; (try dsimp only)) | (k_end; (fail_if_success (with_reducible show Q _ _)); wrow_close) | (k_end; (with_reducible show Q _ _); fail "an end") | walk1 | (dsimp only; walk1) | (leave1; try dsimp only) | fail "no step")
  all_goals first | exact ret_t hret _ 0 (by k_asm) (by k_asm) (by first | assumption | exact lt_of_all (And.right (by assumption)) | exact lt_of_all (And.right (And.right (by assumption))) | exact lt_of_all (And.right (And.right (And.right (by assumption))))) (by repeat (first | exact sub0 | refine subS ?_)) (pair_ib rfl (mv_t (by with_reducible assumption))) | exact ret_t hret _ 0 (by k_asm) (by k_asm) (by first | assumption | exact lt_of_all (And.right (by assumption)) | exact lt_of_all (And.right (And.right (by assumption))) | exact lt_of_all (And.right (And.right (And.right (by assumption))))) (by repeat (first | exact sub0 | refine subS ?_)) (pair_ib rfl (mv_f (by with_reducible assumption)))
set_option maxRecDepth 100000 in
set_option maxHeartbeats 4000000 in
theorem c_mov_shr (i : Nat) (hi : i < 9) (a n : Int) (ha : a.natAbs < 2 ^ 64) (fa : fitsK i a = true) (t t1 t2 t3: Tok) (news : List (Addr × Obj)) :
    Cl 3 209 news [.str (kn i) t, .str (Str.ofString ">>") t1, .int a t2, .int n t3] (fun h₀ L m s Q => RetT h₀ L m news s Q (fun t1 t2 => #[.int (wrapK i (a.fdiv (2 ^ (n.fmod ↑(bK i)).toNat))) t1, .bool (!(decide (0 ≤ n ∧ n < bK i)))])) := by
  have hb := bK_posI i hi
  have q1 : 0 ≤ n.fmod ↑(bK i) := Int.fmod_nonneg_of_pos _ (by omega)
  have q2 : n.fmod ↑(bK i) < ↑(bK i) := Int.fmod_lt_of_pos _ (by omega)
  have q3 : n.fmod ↑(bK i) ≤ 1000000 := by omega
  have q0 : (bK i : Int) ≠ 0 := by omega
  have q4 := pow_fits (n.fmod ↑(bK i)) q1 (by omega)
  have q5 := mulOk ha q4.1 (by decide)
  have q6 := q4.2.1
  have q7 := q4.2.2
  have q8 : (0:Int) ≤ 2 ^ (n.fmod ↑(bK i)).toNat := pow_nn _
  intro w mean mg mb dp un gd cn cs a0 ccd cl outer A₀ base h₀ L m s Q E B F X N T hk hd hu hret
  refine wpAny_call ?_
  k_dflt cell_enter
  repeat' (first | (k_unfold; (try dsimp only)) | (k_end; (fail_if_success (with_reducible show Q _ _)); wrow_close) | (k_end; (with_reducible show Q _ _); fail "an end") | walk1 | (dsimp only; walk1) | (leave1; try dsimp only) | fail "no step")
  all_goals first | exact ret_t hret _ 0 (by k_asm) (by k_asm) (by first | assumption | exact lt_of_all (And.right (by assumption)) | exact lt_of_all (And.right (And.right (by assumption))) | exact lt_of_all (And.right (And.right (And.right (by assumption))))) (by repeat (first | exact sub0 | refine subS ?_)) (pair_ib (shr_eq hi q6 q8 fa) (mv_t (by with_reducible assumption))) | exact ret_t hret _ 0 (by k_asm) (by k_asm) (by first | assumption | exact lt_of_all (And.right (by assumption)) | exact lt_of_all (And.right (And.right (by assumption))) | exact lt_of_all (And.right (And.right (And.right (by assumption))))) (by repeat (first | exact sub0 | refine subS ?_)) (pair_ib (shr_eq hi q6 q8 fa) (mv_f (by with_reducible assumption)))
end
local macro_rules | `(tactic| k_all) => `(tactic| first | with_reducible assumption | exact allNe (by with_reducible assumption) (by omega) | exact allNe (lt_of_all (by with_reducible assumption)) (by omega))
section
open PySem PySem.W PyProof.Rows
theorem rowsB8a : True := by
  k_with_none
  k_with "my sides" => (rotate_left 7; (focus k_asm); (focus k_asm); (focus k_asm); (focus k_asm); (focus k_asm); (focus (first | exact rfl | assumption)); (focus (first | exact room1 (by with_reducible assumption) (by decide) | ((try dsimp only [ktrTop]); omega) | ktr_room)); (focus (first | exact unit1 (by with_reducible assumption) (by decide) | ((try dsimp only [ktrTop]); omega) | ktr_units)))
  k_with "my value" => (intro t9 h9 tk9 F9 N9; (try dsimp only); (try k_sweep); (try k_fold))
  k_with "my pair" => (intro D9 t9 u9 h9 tk9 F9 N9 l9; (try dsimp only at N9); (try k_lt l9); (try dsimp only); (try k_sweep); (try k_fold))
  k_with "my pair2" => (intro D9 t9 u9 h9 tk9 F9 N9 l9; (try k_lt l9); (try dsimp only); (try k_sweep); (try k_fold))
  k_with "binaryOp Add int int" => (k_here; (refine' add_intG  ?_); intro _ _; (try dsimp only))
  k_with "binaryOp Sub int int" => (k_here; (refine' sub_intG  ?_); intro _ _; (try dsimp only))
  k_with "binaryOp Mult int int" => (k_here; (refine' mul_intG ?e0 ?_); (case e0 => with_reducible assumption); intro _ _; (try dsimp only))
  k_with "binaryOp FloorDiv int int" => (k_here; (refine' div_intG ?e0 ?e1 ?_); (case e0 => with_reducible assumption); (case e1 => with_reducible assumption); intro _ _; (try dsimp only))
  k_with "binaryOp Mod int int" => (k_here; (refine' mod_intG ?e0 ?_); (case e0 => with_reducible assumption); intro _ _; (try dsimp only))
  k_with "binaryOp Pow int int" => (k_here; (refine' pow_intG ?e0 ?e1 ?e2 ?_); (case e0 => first | with_reducible assumption | decide); (case e1 => first | with_reducible assumption | decide); (case e2 => decide); intro _ _; (try dsimp only))
  k_with "eval ListComp" => (k_here; k_dflt (refine comp_dict (by k_asm) (by with_unfolding_all rfl) (by decide) (by rfl) (by decide) (by rfl) ?_))
  k_with "SrcDict" => (k_here; k_dflt (refine' ⟨_, _, _, _, rfl, rfl, ?k1, ?k2, ?k3, ?k4, ?k5, ?k6, ?_⟩; (case k1 => k_asm); (case k2 => k_asm); (case k3 => k_mem); (case k4 => assumption); (case k5 => assumption); (case k6 => exact Nat.le_of_ble_eq_true rfl)); intro s9 hs9; obtain ⟨g9, hs9⟩ := hs9; subst hs9; (try dsimp only))
  k_with "CompRestT" => (with_unfolding_all first | (refine rest_skip ?_ ?_ ?_; (focus first | k_mem | (show _ ∈ _; k_mem)); (focus (intro v' I' oI' C' oC' D' m' h' tk' E' hv' hC' hx' F' N' off' ne'; obtain ⟨t9', hv9'⟩ := key_at hv' rfl; subst hv9'; (try simp only [LCg.Off3, and_true] at off')))) | refine LCt.CompRestT.zero ?_)
  k_with "TurnEnd" => (k_dflt (refine TurnEnd.intro (by k_asm) (by k_asm)))
  k_with "compareOp NotEq bool bool" => (refine ne_bool_same ?_ ?_; (focus first | rfl | exact le_not_lt _ _); (try dsimp only))
  k_with "compareOp Eq ref ref" => (k_here; k_dflt (refine' eq_nils ?k1 ?k2 ?k3 ?k4 ?_; (case k1 => k_asm); (case k2 => k_mem); (case k3 => k_mem); (case k4 => exact unit64 (by with_reducible assumption))))
  k_with "call ref" => (k_here; (with_reducible show wpAny _ _ (call (Value.ref 139) [Value.str (Str.ofString "==") _, _, _] _) _ _ _); k_dflt (refine' Cl.use ?k1 ?k2 ?k3 ?k4 ?k5 ?kK (c_eq _ _ _ _ _ _) ?kd ?ku ?_); (case k1 => k_asm); (case k2 => k_asm); (case k3 => k_asm); (case k4 => k_asm); (case k5 => k_asm); (case kK => first | exact rfl | assumption); (case kd => first | exact room1 (by with_reducible assumption) (by decide) | ((try dsimp only [ktrTop]); omega) | ktr_room); (case ku => first | exact unit1 (by with_reducible assumption) (by decide) | ((try dsimp only [ktrTop]); omega) | ktr_units); intro t9 h9 tk9 F9 N9; (try dsimp only); (try k_sweep); (try k_fold))
  k_with "call ref" => (k_here; (with_reducible show wpAny _ _ (call (Value.ref 139) [Value.str (Str.ofString "!=") _, _, _] _) _ _ _); k_dflt (refine' Cl.use ?k1 ?k2 ?k3 ?k4 ?k5 ?kK (c_ne _ _ _ _ _ _) ?kd ?ku ?_); (case k1 => k_asm); (case k2 => k_asm); (case k3 => k_asm); (case k4 => k_asm); (case k5 => k_asm); (case kK => first | exact rfl | assumption); (case kd => first | exact room1 (by with_reducible assumption) (by decide) | ((try dsimp only [ktrTop]); omega) | ktr_room); (case ku => first | exact unit1 (by with_reducible assumption) (by decide) | ((try dsimp only [ktrTop]); omega) | ktr_units); intro t9 h9 tk9 F9 N9; (try dsimp only); (try k_sweep); (try k_fold))
  k_with "call ref" => (k_here; (with_reducible show wpAny _ _ (call (Value.ref 139) [Value.str (Str.ofString "<") _, _, _] _) _ _ _); k_dflt (refine' Cl.use ?k1 ?k2 ?k3 ?k4 ?k5 ?kK (c_lt _ _ _ _ _ _) ?kd ?ku ?_); (case k1 => k_asm); (case k2 => k_asm); (case k3 => k_asm); (case k4 => k_asm); (case k5 => k_asm); (case kK => first | exact rfl | assumption); (case kd => first | exact room1 (by with_reducible assumption) (by decide) | ((try dsimp only [ktrTop]); omega) | ktr_room); (case ku => first | exact unit1 (by with_reducible assumption) (by decide) | ((try dsimp only [ktrTop]); omega) | ktr_units); intro t9 h9 tk9 F9 N9; (try dsimp only); (try k_sweep); (try k_fold))
  k_with "call ref" => (k_here; (with_reducible show wpAny _ _ (call (Value.ref 139) [Value.str (Str.ofString "<=") _, _, _] _) _ _ _); k_dflt (refine' Cl.use ?k1 ?k2 ?k3 ?k4 ?k5 ?kK (c_le _ _ _ _ _ _) ?kd ?ku ?_); (case k1 => k_asm); (case k2 => k_asm); (case k3 => k_asm); (case k4 => k_asm); (case k5 => k_asm); (case kK => first | exact rfl | assumption); (case kd => first | exact room1 (by with_reducible assumption) (by decide) | ((try dsimp only [ktrTop]); omega) | ktr_room); (case ku => first | exact unit1 (by with_reducible assumption) (by decide) | ((try dsimp only [ktrTop]); omega) | ktr_units); intro t9 h9 tk9 F9 N9; (try dsimp only); (try k_sweep); (try k_fold))
  k_with "call ref" => (k_here; (with_reducible show wpAny _ _ (call (Value.ref 139) [Value.str (Str.ofString ">") _, _, _] _) _ _ _); k_dflt (refine' Cl.use ?k1 ?k2 ?k3 ?k4 ?k5 ?kK (c_gt _ _ _ _ _ _) ?kd ?ku ?_); (case k1 => k_asm); (case k2 => k_asm); (case k3 => k_asm); (case k4 => k_asm); (case k5 => k_asm); (case kK => first | exact rfl | assumption); (case kd => first | exact room1 (by with_reducible assumption) (by decide) | ((try dsimp only [ktrTop]); omega) | ktr_room); (case ku => first | exact unit1 (by with_reducible assumption) (by decide) | ((try dsimp only [ktrTop]); omega) | ktr_units); intro t9 h9 tk9 F9 N9; (try dsimp only); (try k_sweep); (try k_fold))
  k_with "call ref" => (k_here; (with_reducible show wpAny _ _ (call (Value.ref 139) [Value.str (Str.ofString ">=") _, _, _] _) _ _ _); k_dflt (refine' Cl.use ?k1 ?k2 ?k3 ?k4 ?k5 ?kK (c_ge _ _ _ _ _ _) ?kd ?ku ?_); (case k1 => k_asm); (case k2 => k_asm); (case k3 => k_asm); (case k4 => k_asm); (case k5 => k_asm); (case kK => first | exact rfl | assumption); (case kd => first | exact room1 (by with_reducible assumption) (by decide) | ((try dsimp only [ktrTop]); omega) | ktr_room); (case ku => first | exact unit1 (by with_reducible assumption) (by decide) | ((try dsimp only [ktrTop]); omega) | ktr_units); intro t9 h9 tk9 F9 N9; (try dsimp only); (try k_sweep); (try k_fold))
  trivial
set_option maxRecDepth 100000 in
set_option maxHeartbeats 4000000 in
theorem c_order (a b : Int) (t t1 : Tok) (news : List (Addr × Obj)) :
    Cl 2 214 news [.int a t, .int b t1] (fun h₀ L m s Q => Ret h₀ L m news s Q (fun t => .bool true)) := by
  intro w mean mg mb dp un gd cn cs a0 ccd cl outer A₀ base h₀ L m s Q E B F X N T hk hd hu hret
  refine wpAny_call ?_
  k_dflt (refine' code_defC ?k1 ?k2 ?k3 ?k4 ?k5 ?kA ?kF ?kK ?k6 ?k7 ?k8 ?k9 ?kB ?kD ?_ ?c2 ?c3 ?c4; (case kA => exact rfl); (case kF => exact rfl); (case kK => assumption); (case k1 => k_asm); (case k2 => k_asm); (case k3 => k_asm); (case k4 => k_asm); (case k5 => k_asm); (case k6 => k_is); (case k7 => k_is); (case k8 => ktr_room); (case k9 => first | exact BindsTo.of_eq rfl | exact binds_K (by k_in) rfl (by k_is) rfl rfl rfl | fail "k_enter: no rule for these arguments"); (case kB => exact rfl); (case kD => decide +kernel); (case c2 => exact rfl); (case c3 => exact rfl); (case c4 => exact rfl); k_whole; intro g' L' h' tk' cells' FG' F' N' Y' B' X' T' l1; (try k_lt l1); k_cells Y'; (try simp only [List.cons_append, List.nil_append] at N'); (try dsimp only); (try k_lift B'); (try k_fold))
  repeat' (first | (k_unfold; (try dsimp only)) | (k_end; (fail_if_success (with_reducible show Q _ _)); wrow_close) | (k_end; (with_reducible show Q _ _); fail "an end") | (walk1; (try dsimp only)) | (dsimp only; walk1) | (leave1; try dsimp only) | fail "no step")
  all_goals first | exact ret_b hret rfl (by k_asm) (by k_asm) (by repeat (first | exact sub0 | refine subS ?_))
end
section
open PySem PySem.W PyProof.Rows
def bt (x : Int) (p : Nat) : Int := (x.fdiv (2 ^ p)).fmod 2
def sAnd (a b : Int) : Nat → Int
  | 0 => 0
  | n + 1 => sAnd a b n + (bt a n + bt b n).fdiv 2 * 2 ^ n
def sOr (a b : Int) : Nat → Int
  | 0 => 0
  | n + 1 => sOr a b n + (bt a n + bt b n + 1).fdiv 2 * 2 ^ n
def sXor (a b : Int) : Nat → Int
  | 0 => 0
  | n + 1 => sXor a b n + (bt a n + bt b n).fmod 2 * 2 ^ n
/-- the word of the loop over the places -/
def BW (a b : Int) (pre : List Int) (x y z : Int) : Prop := x = sAnd a b pre.length ∧ y = sOr a b pre.length ∧ z = sXor a b pre.length
theorem bw_start (a b : Int) : BW a b [] 0 0 0 := ⟨rfl, rfl, rfl⟩
theorem bw_step {a b k x y z : Int} {pre : List Int} (hk : k = 0 + (pre.length : Int)) (h : BW a b pre x y z) :
    BW a b (pre ++ [k]) (x + ((a.fdiv (2 ^ k.toNat)).fmod 2 + (b.fdiv (2 ^ k.toNat)).fmod 2).fdiv 2 * 2 ^ k.toNat)
      (y + ((a.fdiv (2 ^ k.toNat)).fmod 2 + (b.fdiv (2 ^ k.toNat)).fmod 2 + 1).fdiv 2 * 2 ^ k.toNat)
      (z + ((a.fdiv (2 ^ k.toNat)).fmod 2 + (b.fdiv (2 ^ k.toNat)).fmod 2).fmod 2 * 2 ^ k.toNat) := by
  have e : k.toNat = pre.length := by omega
  obtain ⟨h1, h2, h3⟩ := h
  have l : (pre ++ [k]).length = pre.length + 1 := by simp
  rw [e]
  unfold BW
  rw [l]
  refine ⟨?_, ?_, ?_⟩
  · rw [h1]; rfl
  · rw [h2]; rfl
  · rw [h3]; rfl
theorem fmod2 (x : Int) : 0 ≤ x.fmod 2 ∧ x.fmod 2 ≤ 1 := by
  have h1 := Int.fmod_nonneg_of_pos x (show (0:Int) < 2 by decide)
  have h2 := Int.fmod_lt_of_pos x (show (0:Int) < 2 by decide)
  omega
/-- a small number times a power of two: its size -/
theorem mul_pow_ok {x k : Int} (h0 : 0 ≤ k) (h1 : k < 64) (hx : x.natAbs < 2 ^ 8) : IntMulOk x (2 ^ k.toNat) :=
  mulOk hx (pow_fits k h0 h1).1 (by decide)
theorem t_div {u v : Int} : ((u.fmod 2 + v.fmod 2).fdiv 2).natAbs < 2 ^ 8 := by
  have := fmod2 u; have := fmod2 v
  rw [Int.fdiv_eq_ediv_of_nonneg _ (by decide)]; omega
theorem t_div1 {u v : Int} : ((u.fmod 2 + v.fmod 2 + 1).fdiv 2).natAbs < 2 ^ 8 := by
  have := fmod2 u; have := fmod2 v
  rw [Int.fdiv_eq_ediv_of_nonneg _ (by decide)]; omega
theorem t_mod {u : Int} : (u.fmod 2).natAbs < 2 ^ 8 := by
  have := fmod2 u; omega
/-- a contract whose end speaks of the world -/
abbrev ClW (d : Nat) (f : Addr) (news : List (Addr × Obj)) (vs : List Value) (Post : World → Heap → Addr → (Str → Option Value) → Shared → (Value → Shared → Prop) → Prop) : Prop :=
  ∀ (w : World) (mean : ExcName → Option Value) (mg mb : Str → Option Value) (dp un : Nat) (gd : Option (List Code)) (cn : Str) (cs : Scope) (a : Addr) (ccd : Value) (cl : List (Str × Addr)) (outer : List Env) (A₀ : Around) (base h₀ : Heap) (L : Addr) (m : Str → Option Value) (s : Shared) (Q E : Value → Shared → Prop),
    Below A₀ base outer h₀ → Fr h₀ L s.heap m → (Mine.kf.heap_1 w.params).In h₀ → News h₀ L s.heap news →
    Top Mine.vw (looseW Mine.vw [Str.ofString "LendError", Str.ofString "BITS"]) mean mg mb h₀ → cs.kind = .function →
    dp + d < recursionLimit → un + 8 * d + 100 < cLine → Post w h₀ L m s Q →
    wpAny (model PySem.Challenge.rw_nu0375_01.row.prog w) (ktrTop dp un gd cn cs L a ccd cl outer) (call (.ref f) vs) Q E s
theorem ClW.use {d : Nat} {f : Addr} {news : List (Addr × Obj)} {vs : List Value} {Post : World → Heap → Addr → (Str → Option Value) → Shared → (Value → Shared → Prop) → Prop}
    {w : World} {mean : ExcName → Option Value} {mg mb : Str → Option Value} {dp un : Nat} {gd : Option (List Code)} {cn : Str} {cs : Scope} {a : Addr} {ccd : Value} {cl : List (Str × Addr)} {outer : List Env} {A₀ : Around} {base h₀ : Heap} {L : Addr} {m : Str → Option Value} {s : Shared} {Q E : Value → Shared → Prop}
    (B : Below A₀ base outer h₀) (F : Fr h₀ L s.heap m) (X : (Mine.kf.heap_1 w.params).In h₀) (N : News h₀ L s.heap news)
    (T : Top Mine.vw (looseW Mine.vw [Str.ofString "LendError", Str.ofString "BITS"]) mean mg mb h₀) (hk : cs.kind = .function)
    (C : ClW d f news vs Post) (hd : dp + d < recursionLimit) (hu : un + 8 * d + 100 < cLine) (hp : Post w h₀ L m s Q) :
    wpAny (model PySem.Challenge.rw_nu0375_01.row.prog w) (ktrTop dp un gd cn cs L a ccd cl outer) (call (.ref f) vs) Q E s :=
  C w mean mg mb dp un gd cn cs a ccd cl outer A₀ base h₀ L m s Q E B F X N T hk hd hu hp
abbrev bwPairs (x y z : Int) (k1 k2 k3 t1 t2 t3 : Tok) : List (Value × Value) := [(.str (Str.ofString "&") k1, .int x t1), (.str (Str.ofString "|") k2, .int y t2), (.str (Str.ofString "^") k3, .int z t3)]
/-- a dict of three numbers comes back -/
abbrev RetD (x y z : Int) (news : List (Addr × Obj)) (w : World) (h₀ : Heap) (L : Addr) (m : Str → Option Value) (s : Shared) (Q : Value → Shared → Prop) : Prop :=
  ∀ (D : Addr) (o : Obj) (k1 k2 k3 t1 t2 t3 : Tok) (h' : Heap) (tk' : Nat), Fr h₀ L h' m → News h₀ L h' ((D, o) :: news) → (∀ p ∈ news, p.1 < D) → (D == sysModules) = false →
    o.IsDictOf (PySem.strKind PySem.Challenge.rw_nu0375_01.row.prog w) (strPairs (bwPairs x y z k1 k2 k3 t1 t2 t3)) → PyProof.V.FlatPairs PyData.str (strPairs (bwPairs x y z k1 k2 k3 t1 t2 t3)) (strData (bwPairs x y z k1 k2 k3 t1 t2 t3)) → Q (.ref D) { s with heap := h', toks := tk' }
theorem bw_end {i : Nat} {a b x y z : Int} (h : BW a b (rangeKs 0 ((bK i : Int) - 0).toNat) x y z) : x = sAnd a b (bK i) ∧ y = sOr a b (bK i) ∧ z = sXor a b (bK i) := by
  unfold BW at h
  rw [rangeKs_length, show ((bK i : Int) - 0).toNat = bK i by omega] at h
  exact h
theorem ret_d {w : World} {h₀ h' : Heap} {L D : Addr} {m : Str → Option Value} {news news' : List (Addr × Obj)} {s : Shared} {Q : Value → Shared → Prop} {o : Obj} {x y z x' y' z' : Int} {k1 k2 k3 t1 t2 t3 : Tok} {tk' : Nat}
    (hret : RetD x' y' z' news w h₀ L m s Q) (F : Fr h₀ L h' m) (N : News h₀ L h' ((D, o) :: news')) (l : ∀ p ∈ news, p.1 < D) (hs : ∀ p ∈ news, p ∈ news') (lo : (D == sysModules) = false)
    (hd : o.IsDictOf (PySem.strKind PySem.Challenge.rw_nu0375_01.row.prog w) (strPairs (bwPairs x y z k1 k2 k3 t1 t2 t3))) (hf : PyProof.V.FlatPairs PyData.str (strPairs (bwPairs x y z k1 k2 k3 t1 t2 t3)) (strData (bwPairs x y z k1 k2 k3 t1 t2 t3)))
    (e : x = x' ∧ y = y' ∧ z = z') : Q (.ref D) { s with heap := h', toks := tk' } := by
  obtain ⟨e1, e2, e3⟩ := e
  subst e1; subst e2; subst e3
  refine hret D o k1 k2 k3 t1 t2 t3 h' tk' F (fun p hp => ?_) l lo hd hf
  rcases List.mem_cons.mp hp with rfl | hp
  · exact N _ (.head _)
  · exact N p (.tail _ (hs p hp))
end
section
open PySem PySem.W PyProof.Rows
theorem rowsB9a : True := by
  k_with_none
  k_with "my sides" => (rotate_left 7; (focus k_asm); (focus k_asm); (focus k_asm); (focus k_asm); (focus k_asm); (focus (first | exact rfl | assumption)); (focus (first | exact room1 (by with_reducible assumption) (by decide) | ((try dsimp only [ktrTop]); omega) | ktr_room)); (focus (first | exact unit1 (by with_reducible assumption) (by decide) | ((try dsimp only [ktrTop]); omega) | ktr_units)))
  k_with "my value" => (intro t9 h9 tk9 F9 N9; (try dsimp only); (try k_sweep); (try k_fold))
  k_with "my pair" => (intro D9 t9 u9 h9 tk9 F9 N9 l9; (try dsimp only at N9); (try k_lt l9); (try dsimp only); (try k_sweep); (try k_fold))
  k_with "my pair2" => (intro D9 t9 u9 h9 tk9 F9 N9 l9; (try k_lt l9); (try dsimp only); (try k_sweep); (try k_fold))
  k_with "binaryOp Add int int" => (k_here; (refine' add_intG  ?_); intro _ _; (try dsimp only))
  k_with "binaryOp Sub int int" => (k_here; (refine' sub_intG  ?_); intro _ _; (try dsimp only))
  k_with "binaryOp Mult int int" => (k_here; (refine' mul_intG ?e0 ?_); (case e0 => with_reducible assumption); intro _ _; (try dsimp only))
  k_with "binaryOp FloorDiv int int" => (k_here; (refine' div_intG ?e0 ?e1 ?_); (case e0 => with_reducible assumption); (case e1 => with_reducible assumption); intro _ _; (try dsimp only))
  k_with "binaryOp Mod int int" => (k_here; (refine' mod_intG ?e0 ?_); (case e0 => with_reducible assumption); intro _ _; (try dsimp only))
  k_with "binaryOp Pow int int" => (k_here; (refine' pow_intG ?e0 ?e1 ?e2 ?_); (case e0 => first | with_reducible assumption | decide); (case e1 => first | with_reducible assumption | decide); (case e2 => decide); intro _ _; (try dsimp only))
  k_with "binaryOp Mult int int" => (k_here; (refine' mul_intG (mul_pow_ok ?e0 ?e1 ?e2) ?_); (case e0 => omega); (case e1 => omega); (case e2 => first | exact t_div | exact t_div1 | exact t_mod); intro _ _; (try dsimp only))
  k_with "call ref" => (k_here; (with_reducible show wpAny _ _ (call (Value.ref 167) _ _) _ _ _); k_dflt (refine' Cl.use ?_ ?_ ?_ ?_ ?_ ?_ (c_bits _ (by assumption) _ _) ?_ ?_ ?_; walk_at "my sides"); walk_at "my value")
  trivial
set_option maxRecDepth 100000 in
set_option maxHeartbeats 4000000 in
theorem c_bitwise (i : Nat) (hi : i < 9) (a b : Int) (t t1 t2 : Tok) (news : List (Addr × Obj)) :
    ClW 2 195 news [.str (kn i) t, .int a t1, .int b t2] (fun w h₀ L m s Q => RetD (sAnd a b (bK i)) (sOr a b (bK i)) (sXor a b (bK i)) news w h₀ L m s Q) := by
  have hb := bK_posI i hi
  k_with "pyIter ref" => k_state (fun pre x y z => BW a b pre x y z) "both" "some" "other"
  k_with "state" => first | exact bw_start _ _ | exact bw_step (by assumption) (by assumption)
  intro w mean mg mb dp un gd cn cs a0 ccd cl outer A₀ base h₀ L m s Q E B F X N T hk hd hu hret
  refine wpAny_call ?_
  k_dflt cell_enter
  repeat' (first | (k_unfold; (try dsimp only)) | (k_end; (fail_if_success (with_reducible show Q _ _)); wrow_close) | (k_end; (with_reducible show Q _ _); fail "an end") | (walk1; (try dsimp only)) | (dsimp only; walk1) | (leave1; try dsimp only) | fail "no step")
  all_goals first | exact ret_d hret (by k_asm) (by k_asm) (by first | assumption | exact lt_of_all (And.right (by assumption)) | exact lt_of_all (And.right (And.right (by assumption))) | exact lt_of_all (And.right (And.right (And.right (by assumption))))) (by repeat (first | exact sub0 | refine subS ?_)) (by assumption) (by assumption) (by assumption) (bw_end (by assumption))
end
section
open PySem PySem.W PyProof.Rows
theorem fmod_rng (z : Int) {n : Int} (h : 0 < n) : 0 ≤ z.fmod n ∧ z.fmod n < n := ⟨Int.fmod_nonneg_of_pos z h, Int.fmod_lt_of_pos z h⟩
theorem lcg_small (z : Int) : (z.fmod 2147483647).natAbs < 2 ^ 40 := by
  have h := fmod_rng z (show (0:Int) < 2147483647 by decide)
  omega
/-- a draw: a number below top; the source goes on -/
abbrev RetS (S : Addr) (rest : List (Addr × Obj)) (top : Int) (h₀ : Heap) (L : Addr) (m : Str → Option Value) (s : Shared) (Q : Value → Shared → Prop) : Prop :=
  ∀ (r x' y' : Int) (t tx ty : Tok) (c : Nat) (h' : Heap) (tk' : Nat), 0 ≤ r → r < top → 0 ≤ x' → 0 ≤ y' → y' < 2147483647 → Fr h₀ L h' m → News h₀ L h' ((S, listOf #[.int x' tx, .int y' ty] c) :: rest) → Q (.int r t) { s with heap := h', toks := tk' }
theorem ret_s {S : Addr} {rest : List (Addr × Obj)} {top : Int} {h₀ : Heap} {L : Addr} {m : Str → Option Value} {s : Shared} {Q : Value → Shared → Prop} {r x' y' : Int} {t tx ty : Tok} {c : Nat} {h' : Heap} {tk' : Nat}
    (hret : RetS S rest top h₀ L m s Q) (F : Fr h₀ L h' m) (N : News h₀ L h' ((S, listOf #[.int x' tx, .int y' ty] c) :: rest)) (a : 0 ≤ r ∧ r < top) (b : 0 ≤ x') (d : 0 ≤ y' ∧ y' < 2147483647) : Q (.int r t) { s with heap := h', toks := tk' } :=
  hret r x' y' t tx ty c h' tk' a.1 a.2 b d.1 d.2 F N
theorem fdiv_nn {x top : Int} (hx : 0 ≤ x) (h1 : 1 ≤ top) : 0 ≤ x.fdiv top := Int.fdiv_nonneg hx (by omega)
end
section
open PySem PySem.W PyProof.Rows
theorem rowsB10a : True := by
  k_with_none
  k_with "my sides" => (rotate_left 7; (focus k_asm); (focus k_asm); (focus k_asm); (focus k_asm); (focus k_asm); (focus (first | exact rfl | assumption)); (focus (first | exact room1 (by with_reducible assumption) (by decide) | ((try dsimp only [ktrTop]); omega) | ktr_room)); (focus (first | exact unit1 (by with_reducible assumption) (by decide) | ((try dsimp only [ktrTop]); omega) | ktr_units)))
  k_with "my value" => (intro t9 h9 tk9 F9 N9; (try dsimp only); (try k_sweep); (try k_fold))
  k_with "my pair" => (intro D9 t9 u9 h9 tk9 F9 N9 l9; (try dsimp only at N9); (try k_lt l9); (try dsimp only); (try k_sweep); (try k_fold))
  k_with "my pair2" => (intro D9 t9 u9 h9 tk9 F9 N9 l9; (try k_lt l9); (try dsimp only); (try k_sweep); (try k_fold))
  k_with "binaryOp Add int int" => (k_here; (refine' add_intG  ?_); intro _ _; (try dsimp only))
  k_with "binaryOp Sub int int" => (k_here; (refine' sub_intG  ?_); intro _ _; (try dsimp only))
  k_with "binaryOp Mult int int" => (k_here; (refine' mul_intG ?e0 ?_); (case e0 => with_reducible assumption); intro _ _; (try dsimp only))
  k_with "binaryOp FloorDiv int int" => (k_here; (refine' div_intG ?e0 ?e1 ?_); (case e0 => with_reducible assumption); (case e1 => with_reducible assumption); intro _ _; (try dsimp only))
  k_with "binaryOp Mod int int" => (k_here; (refine' mod_intG ?e0 ?_); (case e0 => with_reducible assumption); intro _ _; (try dsimp only))
  k_with "binaryOp Pow int int" => (k_here; (refine' pow_intG ?e0 ?e1 ?e2 ?_); (case e0 => first | with_reducible assumption | decide); (case e1 => first | with_reducible assumption | decide); (case e2 => decide); intro _ _; (try dsimp only))
  k_with "binaryOp Mult int int" => (k_here; k_dflt (refine' mul_intG (mulOk (j := 40) (k := 40) ?e0 ?e1 (by decide)) ?_; (case e0 => exact lcg_small _); (case e1 => exact lcg_small _)); intro _ _; (try dsimp only))
  trivial
set_option maxRecDepth 100000 in
set_option maxHeartbeats 4000000 in
theorem c_take (S : Addr) (x y top : Int) (tx ty t : Tok) (c : Nat) (rest : List (Addr × Obj)) (hx : 0 ≤ x) (hy : 0 ≤ y) (hy2 : y < 2147483647) (h1 : 1 ≤ top) (h2 : top ≤ 2 ^ 64) (hne : ∀ p ∈ rest, p.1 ≠ S) :
    Cl 1 153 ((S, listOf #[.int x tx, .int y ty] c) :: rest) [.ref S, .int top t] (fun h₀ L m s Q => RetS S rest top h₀ L m s Q) := by
  have q0 : top ≠ 0 := by omega
  have q1 : top.natAbs.log2 < 9000 := Nat.lt_of_lt_of_le ((Nat.log2_lt (by omega)).mpr (show top.natAbs < 2 ^ 65 by omega)) (by decide)
  intro w mean mg mb dp un gd cn cs a0 ccd cl outer A₀ base h₀ L m s Q E B F X N T hk hd hu hret
  refine wpAny_call ?_
  k_dflt cell_enter
  repeat' (first | (k_unfold; (try dsimp only)) | (k_end; (fail_if_success (with_reducible show Q _ _)); wrow_close) | (k_end; (with_reducible show Q _ _); fail "an end") | (walk1; (try dsimp only)) | (dsimp only; walk1) | (leave1; try dsimp only) | fail "no step")
  all_goals first | exact ret_s hret (by k_asm) (by k_asm) (fmod_rng _ (by omega)) (fdiv_nn hx h1) ⟨hy, hy2⟩ | exact ret_s hret (by k_asm) (by k_asm) (fmod_rng _ (by omega)) hx (fmod_rng _ (by decide))

/-- the same, wherever the source stands in the ledger -/
abbrev RetSU (S : Addr) (g : Obj → List (Addr × Obj)) (top : Int) (h₀ : Heap) (L : Addr) (m : Str → Option Value) (s : Shared) (Q : Value → Shared → Prop) : Prop :=
  ∀ (r x' y' : Int) (t tx ty : Tok) (c : Nat) (h' : Heap) (tk' : Nat), 0 ≤ r → r < top → 0 ≤ x' → 0 ≤ y' → y' < 2147483647 → Fr h₀ L h' m → News h₀ L h' (g (listOf #[.int x' tx, .int y' ty] c)) → Q (.int r t) { s with heap := h', toks := tk' }
theorem c_takeU (S : Addr) (x y top : Int) (tx ty t : Tok) (c : Nat) {news : List (Addr × Obj)} {g : Obj → List (Addr × Obj)} (hx : 0 ≤ x) (hy : 0 ≤ y) (hy2 : y < 2147483647) (h1 : 1 ≤ top) (h2 : top ≤ 2 ^ 64) (U : UpdF S (listOf #[.int x tx, .int y ty] c) news g) :
    Cl 1 153 news [.ref S, .int top t] (fun h₀ L m s Q => RetSU S g top h₀ L m s Q) := by
  obtain ⟨pre, post, rfl, hg, ha, hb⟩ := U.split
  intro w mean mg mb dp un gd cn cs a0 ccd cl outer A₀ base h₀ L m s Q E B F X N T hk hd hu hret
  refine c_take S x y top tx ty t c (pre ++ post) hx hy hy2 h1 h2 (fun p hp => ?_) w mean mg mb dp un gd cn cs a0 ccd cl outer A₀ base h₀ L m s Q E B F X (fun p hp => ?_) T hk hd hu ?_
  · rcases List.mem_append.mp hp with q | q
    · exact ha p q
    · exact hb p q
  · rcases List.mem_cons.mp hp with rfl | hp
    · exact N _ (by simp)
    · rcases List.mem_append.mp hp with q | q
      · exact N p (List.mem_append_left _ q)
      · exact N p (List.mem_append_right _ (.tail _ q))
  · intro r x' y' t tx ty c h' tk' a1 a2 a3 a4 a5 F' N'
    refine hret r x' y' t tx ty c h' tk' a1 a2 a3 a4 a5 F' ?_
    rw [hg]
    intro p hp
    rcases List.mem_append.mp hp with q | q
    · exact N' p (.tail _ (List.mem_append_left _ q))
    · rcases List.mem_cons.mp q with rfl | q
      · exact N' _ (.head _)
      · exact N' p (.tail _ (List.mem_append_right _ q))
end
section
open PySem PySem.W PyProof.Rows
/-- a number of the kind's; the source goes on -/
abbrev RetN (i : Nat) (S : Addr) (rest : List (Addr × Obj)) (h₀ : Heap) (L : Addr) (m : Str → Option Value) (s : Shared) (Q : Value → Shared → Prop) : Prop :=
  ∀ (r x' y' : Int) (t tx ty : Tok) (c : Nat) (h' : Heap) (tk' : Nat), lowK i ≤ r → r ≤ highK i → 0 ≤ x' → 0 ≤ y' → y' < 2147483647 → Fr h₀ L h' m → News h₀ L h' ((S, listOf #[.int x' tx, .int y' ty] c) :: rest) → Q (.int r t) { s with heap := h', toks := tk' }
theorem menu_rng {i : Nat} (hi : i < 9) {r j : Int} (h0 : 0 ≤ r) (h1 : r < highK i - lowK i + 1) (j0 : 0 ≤ j) (j1 : j < 9) (d : Int) :
    lowK i ≤ ([lowK i, lowK i + 1, highK i, highK i - 1, 0, 1, if -1 > lowK i then -1 else lowK i, (highK i).fdiv 2 + 1, lowK i + r].getD j.toNat d) ∧
    ([lowK i, lowK i + 1, highK i, highK i - 1, 0, 1, if -1 > lowK i then -1 else lowK i, (highK i).fdiv 2 + 1, lowK i + r].getD j.toNat d) ≤ highK i := by
  have hf := ends_facts hi
  have hb : (2:Int) ^ 8 ≤ 2 ^ bK i := by revert i; apply nine <;> intros <;> decide +kernel
  have hd : (highK i).fdiv 2 = highK i / 2 := Int.fdiv_eq_ediv_of_nonneg _ (by decide)
  have hj : j = 0 ∨ j = 1 ∨ j = 2 ∨ j = 3 ∨ j = 4 ∨ j = 5 ∨ j = 6 ∨ j = 7 ∨ j = 8 := by omega
  rcases hj with rfl | rfl | rfl | rfl | rfl | rfl | rfl | rfl | rfl
  · show lowK i ≤ lowK i ∧ lowK i ≤ highK i; omega
  · show lowK i ≤ lowK i + 1 ∧ lowK i + 1 ≤ highK i; omega
  · show lowK i ≤ highK i ∧ highK i ≤ highK i; omega
  · show lowK i ≤ highK i - 1 ∧ highK i - 1 ≤ highK i; omega
  · show lowK i ≤ 0 ∧ 0 ≤ highK i; omega
  · show lowK i ≤ 1 ∧ 1 ≤ highK i; omega
  · show lowK i ≤ (if -1 > lowK i then -1 else lowK i) ∧ (if -1 > lowK i then -1 else lowK i) ≤ highK i; split <;> omega
  · show lowK i ≤ (highK i).fdiv 2 + 1 ∧ (highK i).fdiv 2 + 1 ≤ highK i; omega
  · show lowK i ≤ lowK i + r ∧ lowK i + r ≤ highK i; omega
theorem ret_n {i : Nat} {S : Addr} {rest news' : List (Addr × Obj)} {h₀ : Heap} {L : Addr} {m : Str → Option Value} {s : Shared} {Q : Value → Shared → Prop} {r x' y' : Int} {t tx ty : Tok} {c : Nat} {h' : Heap} {tk' : Nat}
    (hret : RetN i S rest h₀ L m s Q) (F : Fr h₀ L h' m) (N : News h₀ L h' news') (hm : (S, listOf #[.int x' tx, .int y' ty] c) ∈ news') (hs : ∀ p ∈ rest, p ∈ news') (a : lowK i ≤ r ∧ r ≤ highK i) (b : 0 ≤ x') (d : 0 ≤ y') (d' : y' < 2147483647) : Q (.int r t) { s with heap := h', toks := tk' } := by
  refine hret r x' y' t tx ty c h' tk' a.1 a.2 b d d' F fun p hp => ?_
  rcases List.mem_cons.mp hp with rfl | hp
  · exact N _ hm
  · exact N p (hs p hp)
end
section
open PySem PySem.W PyProof.Rows
theorem rowsB11a : True := by
  k_with_none
  k_with "my sides" => (rotate_left 7; (focus k_asm); (focus k_asm); (focus k_asm); (focus k_asm); (focus k_asm); (focus (first | exact rfl | assumption)); (focus (first | exact room1 (by with_reducible assumption) (by decide) | ((try dsimp only [ktrTop]); omega) | ktr_room)); (focus (first | exact unit1 (by with_reducible assumption) (by decide) | ((try dsimp only [ktrTop]); omega) | ktr_units)))
  k_with "my value" => (intro t9 h9 tk9 F9 N9; (try dsimp only); (try k_sweep); (try k_fold))
  k_with "my pair" => (intro D9 t9 u9 h9 tk9 F9 N9 l9; (try dsimp only at N9); (try k_lt l9); (try dsimp only); (try k_sweep); (try k_fold))
  k_with "my pair2" => (intro D9 t9 u9 h9 tk9 F9 N9 l9; (try k_lt l9); (try dsimp only); (try k_sweep); (try k_fold))
  k_with "call ref" => (k_here; (with_reducible show wpAny _ _ (call (Value.ref 160) _ _) _ _ _); k_dflt (refine' Cl.use ?_ ?_ ?_ ?_ ?_ ?_ (c_ends _ (by assumption) _ _) ?_ ?_ ?_; walk_at "my sides"); walk_at "my pair")
  k_with "binaryOp Add int int" => (k_here; (refine' add_intG  ?_); intro _ _; (try dsimp only))
  k_with "binaryOp Sub int int" => (k_here; (refine' sub_intG  ?_); intro _ _; (try dsimp only))
  k_with "binaryOp Mult int int" => (k_here; (refine' mul_intG ?e0 ?_); (case e0 => with_reducible assumption); intro _ _; (try dsimp only))
  k_with "binaryOp FloorDiv int int" => (k_here; (refine' div_intG ?e0 ?e1 ?_); (case e0 => with_reducible assumption); (case e1 => with_reducible assumption); intro _ _; (try dsimp only))
  k_with "binaryOp Mod int int" => (k_here; (refine' mod_intG ?e0 ?_); (case e0 => with_reducible assumption); intro _ _; (try dsimp only))
  k_with "binaryOp Pow int int" => (k_here; (refine' pow_intG ?e0 ?e1 ?e2 ?_); (case e0 => first | with_reducible assumption | decide); (case e1 => first | with_reducible assumption | decide); (case e2 => decide); intro _ _; (try dsimp only))
  k_with "call ref" => (k_here; (with_reducible show wpAny _ _ (call (Value.ref 153) _ _) _ _ _); k_dflt (refine' Cl.use ?k1 ?k2 ?k3 ?k4 ?k5 ?kK (c_takeU _ _ _ _ _ _ _ _ ?kx ?ky ?kz ?kp ?kq ?kU) ?kd ?ku ?_); (case k4 => k_asm); (case kU => k_updF); (case kx => assumption); (case ky => assumption); (case kz => assumption); (case kp => first | assumption | decide); (case kq => first | assumption | decide); (case k1 => k_asm); (case k2 => k_asm); (case k3 => k_asm); (case k5 => k_asm); (case kK => first | exact rfl | assumption); (case kd => first | exact room1 (by with_reducible assumption) (by decide) | ((try dsimp only [ktrTop]); omega) | ktr_room); (case ku => first | exact unit1 (by with_reducible assumption) (by decide) | ((try dsimp only [ktrTop]); omega) | ktr_units); intro r9 x9 y9 t9 v9 w9 c9 h9 tk9 r9a r9b x9a y9a y9b F9 N9; (try dsimp only at N9); (try dsimp only); (try k_sweep); (try k_fold))
  trivial
set_option maxRecDepth 100000 in
set_option maxHeartbeats 4000000 in
theorem c_number (i : Nat) (hi : i < 9) (S : Addr) (x y : Int) (tx ty t : Tok) (c : Nat) (rest : List (Addr × Obj)) (hx : 0 ≤ x) (hy : 0 ≤ y) (hy2 : y < 2147483647) (hne : ∀ p ∈ rest, p.1 ≠ S) :
    Cl 2 181 ((S, listOf #[.int x tx, .int y ty] c) :: rest) [.ref S, .str (kn i) t] (fun h₀ L m s Q => RetN i S rest h₀ L m s Q) := by
  have q0 := ends_facts hi
  have q1 : (2:Int) ^ bK i ≤ 2 ^ 64 := by revert i; apply nine <;> intros <;> decide +kernel
  have q2 : 1 ≤ highK i - lowK i + 1 := by omega
  have q3 : highK i - lowK i + 1 ≤ 2 ^ 64 := by omega
  intro w mean mg mb dp un gd cn cs a0 ccd cl outer A₀ base h₀ L m s Q E B F X N T hk hd hu hret
  refine wpAny_call ?_
  k_dflt cell_enter
  repeat' (first | (k_unfold; (try dsimp only)) | (k_end; (fail_if_success (with_reducible show Q _ _)); wrow_close) | (k_end; (with_reducible show Q _ _); fail "an end") | (walk1; (try dsimp only)) | (dsimp only; walk1) | (leave1; try dsimp only) | fail "no step")
  all_goals first | exact ret_n hret (by k_asm) (by k_asm) (by k_mem) (by repeat (first | exact sub0 | refine subS ?_)) (menu_rng hi (by assumption) (by assumption) (by assumption) (by assumption) _) (by assumption) (by assumption) (by assumption)
end
section
open PySem PySem.W PyProof.Rows
theorem bt_eq (x : Int) (n : Nat) : bt x n = x / 2 ^ n % 2 := by
  unfold bt
  rw [Int.fmod_eq_emod_of_nonneg _ (by decide), Int.fdiv_eq_ediv_of_nonneg _ (Int.le_of_lt (Int.pow_pos (by decide)))]
theorem half_pow (x : Int) (n : Nat) : x / 2 ^ (n + 1) = x / 2 ^ n / 2 := by
  rw [Int.pow_succ, Int.ediv_ediv_of_nonneg (Int.le_of_lt (Int.pow_pos (by decide)))]
theorem sAnd_s (a b : Int) (n : Nat) : sAnd a b (n + 1) = sAnd a b n + (bt a n + bt b n).fdiv 2 * 2 ^ n := rfl
theorem sOr_s (a b : Int) (n : Nat) : sOr a b (n + 1) = sOr a b n + (bt a n + bt b n + 1).fdiv 2 * 2 ^ n := rfl
theorem sXor_s (a b : Int) (n : Nat) : sXor a b (n + 1) = sXor a b n + (bt a n + bt b n).fmod 2 * 2 ^ n := rfl
/-- 'and', place by place, and what stands above -/
theorem and_sum (a b : Int) (n : Nat) : Builtin.bitAnd a b = sAnd a b n + 2 ^ n * Builtin.bitAnd (a / 2 ^ n) (b / 2 ^ n) := by
  induction n with
  | zero => simp [sAnd]
  | succ n ih =>
    rw [ih, PySem.W.kbt_halves (a / 2 ^ n) (b / 2 ^ n), half_pow, half_pow]
    rw [sAnd_s, bt_eq, bt_eq, Int.fdiv_eq_ediv_of_nonneg _ (by decide), Int.pow_succ, Int.mul_add, ← Int.mul_assoc]
    have e : (if a / 2 ^ n % 2 = 1 ∧ b / 2 ^ n % 2 = 1 then (1:Int) else 0) = (a / 2 ^ n % 2 + b / 2 ^ n % 2) / 2 := by split <;> omega
    rw [e, Int.mul_comm (2 ^ n) ((a / 2 ^ n % 2 + b / 2 ^ n % 2) / 2)]
    omega
/-- the lowest places -/
def lowS (x : Int) : Nat → Int
  | 0 => 0
  | n + 1 => lowS x n + bt x n * 2 ^ n
theorem lowS_s (x : Int) (n : Nat) : lowS x (n + 1) = lowS x n + bt x n * 2 ^ n := rfl
theorem low_sum (x : Int) (n : Nat) : x = lowS x n + 2 ^ n * (x / 2 ^ n) := by
  induction n with
  | zero => simp [lowS]
  | succ n ih =>
    rw [lowS_s, half_pow, Int.pow_succ, bt_eq, Int.mul_assoc]
    have e : x / 2 ^ n = 2 * (x / 2 ^ n / 2) + x / 2 ^ n % 2 := by omega
    have e2 : 2 ^ n * (x / 2 ^ n) = 2 ^ n * (2 * (x / 2 ^ n / 2)) + x / 2 ^ n % 2 * 2 ^ n := by
      rw [Int.mul_comm (x / 2 ^ n % 2), ← Int.mul_add, ← e]
    omega
theorem or_low (a b : Int) (n : Nat) : sOr a b n = lowS a n + lowS b n - sAnd a b n := by
  induction n with
  | zero => rfl
  | succ n ih =>
    rw [sOr_s, lowS_s, lowS_s, sAnd_s, ih, bt_eq, bt_eq, Int.fdiv_eq_ediv_of_nonneg _ (by decide), Int.fdiv_eq_ediv_of_nonneg _ (by decide)]
    have e : (a / 2 ^ n % 2 + b / 2 ^ n % 2 + 1) / 2 = a / 2 ^ n % 2 + b / 2 ^ n % 2 - (a / 2 ^ n % 2 + b / 2 ^ n % 2) / 2 := by omega
    rw [e, Int.sub_mul, Int.add_mul]
    omega
theorem xor_low (a b : Int) (n : Nat) : sXor a b n = lowS a n + lowS b n - 2 * sAnd a b n := by
  induction n with
  | zero => rfl
  | succ n ih =>
    rw [sXor_s, lowS_s, lowS_s, sAnd_s, ih, bt_eq, bt_eq, Int.fdiv_eq_ediv_of_nonneg _ (by decide), Int.fmod_eq_emod_of_nonneg _ (by decide)]
    have e : (a / 2 ^ n % 2 + b / 2 ^ n % 2) % 2 = a / 2 ^ n % 2 + b / 2 ^ n % 2 - 2 * ((a / 2 ^ n % 2 + b / 2 ^ n % 2) / 2) := by omega
    rw [e, Int.sub_mul, Int.add_mul, Int.mul_assoc]
    omega
theorem or_sum (a b : Int) (n : Nat) : Builtin.bitOr a b = sOr a b n + 2 ^ n * Builtin.bitOr (a / 2 ^ n) (b / 2 ^ n) := by
  rw [bitOr_and, bitOr_and, or_low, Int.mul_sub, Int.mul_add]
  have h1 := low_sum a n
  have h2 := low_sum b n
  have h3 := and_sum a b n
  omega
theorem xor_sum (a b : Int) (n : Nat) : Builtin.bitXor a b = sXor a b n + 2 ^ n * Builtin.bitXor (a / 2 ^ n) (b / 2 ^ n) := by
  rw [bitXor_and, bitXor_and, xor_low, Int.mul_sub, Int.mul_add]
  have h1 := low_sum a n
  have h2 := low_sum b n
  have h3 := and_sum a b n
  have h4 : 2 ^ n * (2 * Builtin.bitAnd (a / 2 ^ n) (b / 2 ^ n)) = 2 * (2 ^ n * Builtin.bitAnd (a / 2 ^ n) (b / 2 ^ n)) := by rw [← Int.mul_assoc, Int.mul_comm (2 ^ n) 2, Int.mul_assoc]
  omega
theorem step_rng {s t P : Int} (h1 : 0 ≤ s) (h2 : s < P) (h3 : 0 ≤ t) (h4 : t ≤ 1) : 0 ≤ s + t * P ∧ s + t * P < P * 2 := by
  rcases (show t = 0 ∨ t = 1 by omega) with rfl | rfl <;> omega
theorem and_rng (a b : Int) (n : Nat) : 0 ≤ sAnd a b n ∧ sAnd a b n < 2 ^ n := by
  induction n with
  | zero => exact ⟨by simp [sAnd], by simp [sAnd]⟩
  | succ n ih =>
    rw [sAnd_s, bt_eq, bt_eq, Int.fdiv_eq_ediv_of_nonneg _ (by decide), Int.pow_succ]
    exact step_rng ih.1 ih.2 (by omega) (by omega)
theorem or_rng (a b : Int) (n : Nat) : 0 ≤ sOr a b n ∧ sOr a b n < 2 ^ n := by
  induction n with
  | zero => exact ⟨by simp [sOr], by simp [sOr]⟩
  | succ n ih =>
    rw [sOr_s, bt_eq, bt_eq, Int.fdiv_eq_ediv_of_nonneg _ (by decide), Int.pow_succ]
    exact step_rng ih.1 ih.2 (by omega) (by omega)
theorem xor_rng (a b : Int) (n : Nat) : 0 ≤ sXor a b n ∧ sXor a b n < 2 ^ n := by
  induction n with
  | zero => exact ⟨by simp [sXor], by simp [sXor]⟩
  | succ n ih =>
    rw [sXor_s, bt_eq, bt_eq, Int.fmod_eq_emod_of_nonneg _ (by decide), Int.pow_succ]
    exact step_rng ih.1 ih.2 (by omega) (by omega)
theorem wrap_mod {i : Nat} (s k : Int) : wrapK i (s + 2 ^ bK i * k) = wrapK i s := by
  unfold wrapK
  rw [show s + 2 ^ bK i * k - lowK i = (s - lowK i) + 2 ^ bK i * k by omega, Int.add_mul_emod_self_left]
theorem and_eq {i : Nat} (hi : i < 9) (a b : Int) : wrapK i (Builtin.bitAnd a b) = wrapK i (sAnd a b (bK i)) := by rw [and_sum a b (bK i), wrap_mod]
theorem or_eq {i : Nat} (hi : i < 9) (a b : Int) : wrapK i (Builtin.bitOr a b) = wrapK i (sOr a b (bK i)) := by rw [or_sum a b (bK i), wrap_mod]
theorem xor_eq {i : Nat} (hi : i < 9) (a b : Int) : wrapK i (Builtin.bitXor a b) = wrapK i (sXor a b (bK i)) := by rw [xor_sum a b (bK i), wrap_mod]
/-- what stands above the places of a kind: nought, or minus one where the kind has a sign -/
theorem above {i : Nat} (hi : i < 9) : ∃ n : Nat, ∃ e : Int, (e = 0 ∨ e = -1) ∧ lowK i = 2 ^ n * e ∧ highK i = 2 ^ n - 1 := by
  revert i
  apply nine
  · exact ⟨7, -1, Or.inr rfl, by decide +kernel, by decide +kernel⟩
  · exact ⟨15, -1, Or.inr rfl, by decide +kernel, by decide +kernel⟩
  · exact ⟨31, -1, Or.inr rfl, by decide +kernel, by decide +kernel⟩
  · exact ⟨63, -1, Or.inr rfl, by decide +kernel, by decide +kernel⟩
  · exact ⟨8, 0, Or.inl rfl, by decide +kernel, by decide +kernel⟩
  · exact ⟨16, 0, Or.inl rfl, by decide +kernel, by decide +kernel⟩
  · exact ⟨32, 0, Or.inl rfl, by decide +kernel, by decide +kernel⟩
  · exact ⟨64, 0, Or.inl rfl, by decide +kernel, by decide +kernel⟩
  · exact ⟨64, 0, Or.inl rfl, by decide +kernel, by decide +kernel⟩
theorem above_of {a P e : Int} (hP : 0 < P) (he : e = 0 ∨ e = -1) (h1 : P * e ≤ a) (h2 : a ≤ P - 1) : a / P = 0 ∨ a / P = e := by
  rcases he with rfl | rfl
  · exact Or.inl (Int.ediv_eq_zero_of_lt (by omega) (by omega))
  · by_cases h : 0 ≤ a
    · exact Or.inl (Int.ediv_eq_zero_of_lt h (by omega))
    · refine Or.inr ?_
      rw [Int.ediv_eq_iff_of_pos hP]
      omega
theorem bits_fit {i : Nat} (hi : i < 9) (f : Int → Int → Int) (g : Int → Int → Nat → Int) (hs : ∀ a b n, f a b = g a b n + 2 ^ n * f (a / 2 ^ n) (b / 2 ^ n)) (hg : ∀ a b n, 0 ≤ g a b n ∧ g a b n < 2 ^ n)
    (h00 : f 0 0 = 0) (h01 : f 0 (-1) = 0 ∨ f 0 (-1) = -1) (h10 : f (-1) 0 = 0 ∨ f (-1) 0 = -1) (h11 : f (-1) (-1) = 0 ∨ f (-1) (-1) = -1) {a b : Int} (fa : fitsK i a = true) (fb : fitsK i b = true) : (!fitsK i (f a b)) = false := by
  obtain ⟨n, e, he, hl, hh⟩ := above hi
  rw [fits_iff] at fa fb
  rw [Bool.not_eq_false', fits_iff]
  rw [hl, hh] at fa fb ⊢
  have hP : (0 : Int) < 2 ^ n := Int.pow_pos (by decide)
  have hr := hg a b n
  rw [hs a b n]
  have ua := above_of hP he fa.1 fa.2
  have ub := above_of hP he fb.1 fb.2
  have hc : f (a / 2 ^ n) (b / 2 ^ n) = 0 ∨ f (a / 2 ^ n) (b / 2 ^ n) = e := by
    rcases he with rfl | rfl <;> rcases ua with q | q <;> rcases ub with r | r <;> rw [q, r] <;> simp [h00, h01, h10, h11]
  generalize f (a / 2 ^ n) (b / 2 ^ n) = c at hc
  generalize (2 : Int) ^ n = P at *
  rcases he with rfl | rfl <;> rcases hc with rfl | rfl <;> omega
theorem and_fits {i : Nat} (hi : i < 9) {a b : Int} (fa : fitsK i a = true) (fb : fitsK i b = true) : (!fitsK i (Builtin.bitAnd a b)) = false :=
  bits_fit hi Builtin.bitAnd sAnd and_sum and_rng (by decide +kernel) (by decide +kernel) (by decide +kernel) (by decide +kernel) fa fb
theorem or_fits {i : Nat} (hi : i < 9) {a b : Int} (fa : fitsK i a = true) (fb : fitsK i b = true) : (!fitsK i (Builtin.bitOr a b)) = false :=
  bits_fit hi Builtin.bitOr sOr or_sum or_rng (by decide +kernel) (by decide +kernel) (by decide +kernel) (by decide +kernel) fa fb
theorem xor_fits {i : Nat} (hi : i < 9) {a b : Int} (fa : fitsK i a = true) (fb : fitsK i b = true) : (!fitsK i (Builtin.bitXor a b)) = false :=
  bits_fit hi Builtin.bitXor sXor xor_sum xor_rng (by decide +kernel) (by decide +kernel) (by decide +kernel) (by decide +kernel) fa fb
end
section
open PySem PySem.W PyProof.Rows
/-- a quotient, or a rest, with its 'over'; none by nought -/
def orNone (b v : Int) (o : Bool) (t : Tok) : Array Value := if b = 0 then #[.none, .bool false] else #[.int v t, .bool o]
theorem c_chk_divA (i : Nat) (hi : i < 9) (a b : Int) (ha : a.natAbs < 2 ^ 64) (hb : b.natAbs < 2 ^ 64) (fa : fitsK i a = true) (fb : fitsK i b = true) (t t1 t2 t3 : Tok) (news : List (Addr × Obj)) :
    Cl 5 111 news [.str (kn i) t, .str (Str.ofString "/") t1, .int a t2, .int b t3] (fun h₀ L m s Q => RetT h₀ L m news s Q (fun t1 _ => orNone b (wrapK i (a.tdiv b)) (!fitsK i (a.tdiv b)) t1)) := by
  by_cases h : b = 0
  · subst h; simp only [orNone, if_true]; exact c_chk_div0 i hi a t t1 t2 t3 news
  · simp only [orNone, if_neg h]; exact c_chk_div i hi a b ha hb h fa fb t t1 t2 t3 news
theorem c_chk_modA (i : Nat) (hi : i < 9) (a b : Int) (ha : a.natAbs < 2 ^ 64) (hb : b.natAbs < 2 ^ 64) (fa : fitsK i a = true) (fb : fitsK i b = true) (t t1 t2 t3 : Tok) (news : List (Addr × Obj)) :
    Cl 5 111 news [.str (kn i) t, .str (Str.ofString "%") t1, .int a t2, .int b t3] (fun h₀ L m s Q => RetT h₀ L m news s Q (fun t1 _ => orNone b (wrapK i (a - b * a.tdiv b)) (!fitsK i (a.tdiv b)) t1)) := by
  by_cases h : b = 0
  · subst h; simp only [orNone, if_true]; exact c_chk_mod0 i hi a t t1 t2 t3 news
  · simp only [orNone, if_neg h]; exact c_chk_mod i hi a b ha hb h fa fb t t1 t2 t3 news
theorem c_due_divA (i : Nat) (hi : i < 9) (a b : Int) (ha : a.natAbs < 2 ^ 64) (hb : b.natAbs < 2 ^ 64) (t t1 t2 t3 : Tok) (news : List (Addr × Obj)) :
    Cl 3 202 news [.str (kn i) t, .str (Str.ofString "/") t1, .int a t2, .int b t3] (fun h₀ L m s Q => RetT h₀ L m news s Q (fun t1 _ => orNone b (wrapK i (a.tdiv b)) (!fitsK i (a.tdiv b)) t1)) := by
  by_cases h : b = 0
  · subst h; simp only [orNone, if_true]; exact c_due_div0 i hi a t t1 t2 t3 news
  · simp only [orNone, if_neg h]; exact c_due_div i hi a b ha hb h t t1 t2 t3 news
theorem c_due_modA (i : Nat) (hi : i < 9) (a b : Int) (ha : a.natAbs < 2 ^ 64) (hb : b.natAbs < 2 ^ 64) (t t1 t2 t3 : Tok) (news : List (Addr × Obj)) :
    Cl 3 202 news [.str (kn i) t, .str (Str.ofString "%") t1, .int a t2, .int b t3] (fun h₀ L m s Q => RetT h₀ L m news s Q (fun t1 _ => orNone b (wrapK i (a - b * a.tdiv b)) (!fitsK i (a.tdiv b)) t1)) := by
  by_cases h : b = 0
  · subst h; simp only [orNone, if_true]; exact c_due_mod0 i hi a t t1 t2 t3 news
  · simp only [orNone, if_neg h]; exact c_due_mod i hi a b ha hb h t t1 t2 t3 news
theorem ne_or {prog : Program} {w : World} {A : Around} {E : Value → Shared → Prop} {s : Shared} {h₀ : Heap} {L D D' : Addr} {news : List (Addr × Obj)} {Q : Value → Shared → Prop} {b v : Int} {o : Bool} {t t' : Tok} (N : News h₀ L s.heap news)
    (h1 : (D, ({ cls := .type "tuple", data := .seq (orNone b v o t) } : Obj)) ∈ news) (h2 : (D', ({ cls := .type "tuple", data := .seq (orNone b v o t') } : Obj)) ∈ news)
    (hu : A.units + 64 < cLine) (h : Q (.bool false) s) : wpAny (model prog w) A (compareOp .NotEq (.ref D) (.ref D')) Q E s := by
  by_cases hb : b = 0
  · simp only [orNone, if_pos hb] at h1 h2
    exact ne_pair_n N h1 h2 hu h
  · simp only [orNone, if_neg hb] at h1 h2
    exact ne_pair_ib N h1 h2 hu rfl rfl h
theorem num_facts {i : Nat} (hi : i < 9) {r : Int} (h1 : lowK i ≤ r) (h2 : r ≤ highK i) : fitsK i r = true ∧ r.natAbs < 2 ^ 64 := by
  refine ⟨fits_iff.mpr ⟨h1, h2⟩, ?_⟩
  have : -(2 ^ 63) ≤ lowK i ∧ highK i < 2 ^ 64 := by clear h1 h2; revert i; apply nine <;> decide +kernel
  omega
end
section
open PySem PySem.W PyProof.Rows
abbrev RetNU (i : Nat) (S : Addr) (g : Obj → List (Addr × Obj)) (h₀ : Heap) (L : Addr) (m : Str → Option Value) (s : Shared) (Q : Value → Shared → Prop) : Prop :=
  ∀ (r x' y' : Int) (t tx ty : Tok) (c : Nat) (h' : Heap) (tk' : Nat), lowK i ≤ r → r ≤ highK i → 0 ≤ x' → 0 ≤ y' → y' < 2147483647 → Fr h₀ L h' m → News h₀ L h' (g (listOf #[.int x' tx, .int y' ty] c)) → Q (.int r t) { s with heap := h', toks := tk' }
theorem c_numberU (i : Nat) (hi : i < 9) (S : Addr) (x y : Int) (tx ty t : Tok) (c : Nat) {news : List (Addr × Obj)} {g : Obj → List (Addr × Obj)} (hx : 0 ≤ x) (hy : 0 ≤ y) (hy2 : y < 2147483647) (U : UpdF S (listOf #[.int x tx, .int y ty] c) news g) :
    Cl 2 181 news [.ref S, .str (kn i) t] (fun h₀ L m s Q => RetNU i S g h₀ L m s Q) := by
  obtain ⟨pre, post, rfl, hg, ha, hb⟩ := U.split
  intro w mean mg mb dp un gd cn cs a0 ccd cl outer A₀ base h₀ L m s Q E B F X N T hk hd hu hret
  refine c_number i hi S x y tx ty t c (pre ++ post) hx hy hy2 (fun p hp => ?_) w mean mg mb dp un gd cn cs a0 ccd cl outer A₀ base h₀ L m s Q E B F X (fun p hp => ?_) T hk hd hu ?_
  · rcases List.mem_append.mp hp with q | q
    · exact ha p q
    · exact hb p q
  · rcases List.mem_cons.mp hp with rfl | hp
    · exact N _ (by simp)
    · rcases List.mem_append.mp hp with q | q
      · exact N p (List.mem_append_left _ q)
      · exact N p (List.mem_append_right _ (.tail _ q))
  · intro r x' y' t tx ty c h' tk' a1 a2 a3 a4 a5 F' N'
    refine hret r x' y' t tx ty c h' tk' a1 a2 a3 a4 a5 F' ?_
    rw [hg]
    intro p hp
    rcases List.mem_append.mp hp with q | q
    · exact N' p (.tail _ (List.mem_append_left _ q))
    · rcases List.mem_cons.mp q with rfl | q
      · exact N' _ (.head _)
      · exact N' p (.tail _ (List.mem_append_right _ q))
section
variable {prog : Program} {w : World} {A : Around} {E : Value → Shared → Prop} {s : Shared} {a b : Int} {t u : Tok} {Q : Value → Shared → Prop}
theorem eq_int_same (e : a = b) (h : Q (.bool true) s) : wpAny (model prog w) A (compareOp .Eq (.int a t) (.int b u)) Q E s := by
  subst e
  exact PyProof.Rows.eq_int (by simpa using h)
theorem ne_int_same (e : a = b) (h : Q (.bool false) s) : wpAny (model prog w) A (compareOp .NotEq (.int a t) (.int b u)) Q E s := by
  subst e
  exact PyProof.Rows.ne_int (by simpa using h)
end
end
section
open PySem PySem.W PyProof.Rows PySem.Calls PySem.Spec
/-- a turn that comes back: the same ledger, two names of the frame turned -/
def TurnBack (h₀ : Heap) (L : Addr) (x x2 : Str) (m₀ : Str → Option Value) (all : List (Addr × Obj)) (s₁ : Shared) (f : Flow) (s₂ : Shared) : Prop :=
  f = .next ∧ ∃ h' tk m', s₂ = { s₁ with heap := h', toks := tk } ∧ Fr h₀ L h' m' ∧ (∀ z, z ≠ x → z ≠ x2 → m' z = m₀ z) ∧ News h₀ L h' all
theorem TurnBack.intro {h₀ : Heap} {L : Addr} {x x2 : Str} {m₀ m' : Str → Option Value} {all all' : List (Addr × Obj)} {s₁ : Shared} {h' : Heap} {tk : Nat} (F : Fr h₀ L h' m') (N : News h₀ L h' all') (hs : ∀ p ∈ all, p ∈ all') (e : ∀ z, z ≠ x → z ≠ x2 → m' z = m₀ z) :
    TurnBack h₀ L x x2 m₀ all s₁ .next { s₁ with heap := h', toks := tk } := ⟨rfl, h', tk, m', rfl, F, e, fun p hp => N p (hs p hp)⟩
def EachOf : List Value → (Value → Prop) → Prop
  | [], _ => True
  | v :: r, P => P v ∧ EachOf r P
theorem EachOf.at {P : Value → Prop} : ∀ {l : List Value}, EachOf l P → ∀ (i : Nat) (v : Value), l.toArray[i]? = some v → P v
  | [], _, i, v, h => by simp at h
  | a :: r, ⟨h1, h2⟩, 0, v, h => by simp at h; exact h ▸ h1
  | a :: r, ⟨h1, h2⟩, i + 1, v, h => EachOf.at h2 i v (by simpa using h)
section
variable {prog : Program} {w : World} {A : Around} {E : Value → Shared → Prop} {s : Shared} {env : Env} {h₀ : Heap} {x : Str} {body : List Stmt} {Q : Flow → Shared → Prop}
theorem each_list {l : Addr} {items : Array Value} {n : Nat} (x2 : Str) {m₀ : Str → Option Value} {news : List (Addr × Obj)} (hh : A.handled = none)
    (F : Fr h₀ env.locals s.heap m₀) (N : News h₀ env.locals s.heap news) (hm : (l, listOf items n) ∈ news)
    (turn : ∀ (i : Nat) (v : Value) (u : Str → Option Value) (h : Heap) (tk : Nat) (tail : List (Addr × Obj)), items[i]? = some v → Fr h₀ env.locals h (fun y => if y = x then some v else if y = x2 then u y else m₀ y) → News h₀ env.locals h (news ++ tail) →
      wpAny (model prog w) A (execs body env) (TurnBack h₀ env.locals x x2 m₀ (news ++ tail) { s with heap := h, toks := tk }) E { s with heap := h, toks := tk })
    (done : ∀ (u : Str → Option Value) h tk, Fr h₀ env.locals h (fun y => if y = x then u y else if y = x2 then u y else m₀ y) → News h₀ env.locals h news → Q .next { s with heap := h, toks := tk }) :
    wpAny (model prog w) A (pyIter (.ref l)) (fun it s₂ => LoopAtV prog w A h₀ env x body Q E it s₂) E s := by
  have hl : s.heap.IsList l items := ⟨_, (N _ hm).1, rfl, _, rfl⟩
  have hlt : l < s.heap.objs.size := Heap.lt_size (N _ hm).1
  refine wpAny_pyIter_list hl ?_
  have hnew := next_is_new F
  have up : ∀ b o, s.heap.get? b = some o → (s.heap.push { cls := .type "list_iterator", data := .fields #[.ref l, .int 0 0] }).get? b = some o := fun b o e => Heap.get?_push_of_some _ e
  let J : Nat → (Str → Option Value) → List (Addr × Obj) → Prop := fun _ m₁ nx => nx = news ∧ ∀ z, z ≠ x → z ≠ x2 → m₁ z = m₀ z
  have lL : env.locals ≠ l := fun q => (N _ hm).2.1 q.symm
  have lI : env.locals ≠ s.heap.objs.size := fun q => absurd F.ns.lt (by rw [q]; exact Nat.lt_irrefl _)
  refine ⟨s.heap.objs.size, [s.heap.objs.size, l], [s.heap.objs.size], items.size, _, _, m₀, news, J, rfl, Walks.list hh s.heap.objs.size l (Nat.ne_of_lt hlt) items, ?_, ?_, ?_,
    ⟨⟨_, Heap.get?_push_size _ rfl, rfl, rfl⟩, hl.push _⟩, F.keeps up, N.grown up, ⟨rfl, fun _ _ _ => rfl⟩, ?_, ?_⟩
  · intro q
    rcases List.mem_cons.mp q with q | q
    · exact lI q
    · exact lL (List.mem_singleton.mp q)
  · intro b hb
    rw [List.mem_singleton.mp hb]
    exact hnew
  · intro p hp hI
    exact absurd (Heap.lt_size (N p hp).1) ((List.mem_singleton.mp hI) ▸ Nat.lt_irrefl _)
  · rintro i v m₁ news₁ s₁ own ⟨hh', tk', rfl⟩ hin hP ⟨rfl, hJ⟩ hoff hown hget hall hst F₁ N₁
    have em : (fun y => if y = x then some v else m₁ y) = fun y => if y = x then some v else if y = x2 then m₁ y else m₀ y := by
      funext y
      by_cases e1 : y = x
      · rw [if_pos e1, if_pos e1]
      · rw [if_neg e1, if_neg e1]
        by_cases e2 : y = x2
        · rw [if_pos e2]
        · rw [if_neg e2, hJ y e1 e2]
    rw [em] at F₁
    refine wpAny_mono (turn i v m₁ hh' tk' own hP F₁ (fun p hp => N₁ p ((List.mem_append.mp hp).elim (fun h => List.mem_append_right _ h) fun h => List.mem_append_left _ h))) (fun f s₂ p => ?_) fun _ _ e => e
    obtain ⟨rfl, h', tk, m', rfl, F', e', N'⟩ := p
    exact .next ⟨rfl, h', tk, m', news₁, rfl, F', fun p hp => N' p ((List.mem_append.mp hp).elim (fun h => List.mem_append_right _ h) fun h => List.mem_append_left _ h), hoff, rfl, e'⟩
  · rintro h' tk m' news' F' N' _ ⟨rfl, hJ⟩
    refine done m' h' tk ?_ N'
    have em : m' = fun y => if y = x then m' y else if y = x2 then m' y else m₀ y := by
      funext y
      by_cases e1 : y = x
      · rw [if_pos e1]
      · rw [if_neg e1]
        by_cases e2 : y = x2
        · rw [if_pos e2]
        · rw [if_neg e2, hJ y e1 e2]
    rw [← em]
    exact F'
theorem each_of {l : Addr} {items : List Value} {n : Nat} (x2 : Str) {m₀ : Str → Option Value} {news : List (Addr × Obj)} (hh : A.handled = none)
    (F : Fr h₀ env.locals s.heap m₀) (N : News h₀ env.locals s.heap news) (hm : (l, listOf items.toArray n) ∈ news)
    (turn : EachOf items (fun v => ∀ (u : Str → Option Value) (h : Heap) (tk : Nat) (tail : List (Addr × Obj)), Fr h₀ env.locals h (fun y => if y = x then some v else if y = x2 then u y else m₀ y) → News h₀ env.locals h (news ++ tail) →
      wpAny (model prog w) A (execs body env) (TurnBack h₀ env.locals x x2 m₀ (news ++ tail) { s with heap := h, toks := tk }) E { s with heap := h, toks := tk }))
    (done : ∀ (u : Str → Option Value) h tk, Fr h₀ env.locals h (fun y => if y = x then u y else if y = x2 then u y else m₀ y) → News h₀ env.locals h news → Q .next { s with heap := h, toks := tk }) :
    wpAny (model prog w) A (pyIter (.ref l)) (fun it s₂ => LoopAtV prog w A h₀ env x body Q E it s₂) E s :=
  each_list x2 hh F N hm (fun i v u h tk tail hv => EachOf.at turn i v hv u h tk tail) done
end
end
section
open PySem PySem.W PyProof.Rows
theorem rowsB12a : True := by
  k_with_none
  k_with "my sides" => (rotate_left 7; (focus k_asm); (focus k_asm); (focus k_asm); (focus k_asm); (focus k_asm); (focus (first | exact rfl | assumption)); (focus (first | exact room1 (by with_reducible assumption) (by decide) | ((try dsimp only [ktrTop]); omega) | ktr_room)); (focus (first | exact unit1 (by with_reducible assumption) (by decide) | ((try dsimp only [ktrTop]); omega) | ktr_units)))
  k_with "my value" => (intro t9 h9 tk9 F9 N9; (try dsimp only); (try k_sweep); (try k_fold))
  k_with "my pair" => (intro D9 t9 u9 h9 tk9 F9 N9 l9; (try dsimp only at N9); (try k_lt l9); (try dsimp only); (try k_sweep); (try k_fold))
  k_with "my pair2" => (intro D9 t9 u9 h9 tk9 F9 N9 l9; (try k_lt l9); (try dsimp only); (try k_sweep); (try k_fold))
  k_with "call ref" => (k_here; (with_reducible show wpAny _ _ (call (Value.ref 160) _ _) _ _ _); k_dflt (refine' Cl.use ?_ ?_ ?_ ?_ ?_ ?_ (c_ends _ (by assumption) _ _) ?_ ?_ ?_; walk_at "my sides"); walk_at "my pair")
  k_with "call ref" => (k_here; (with_reducible show wpAny _ _ (call (Value.ref 62) _ _) _ _ _); k_dflt (refine' Cl.use ?_ ?_ ?_ ?_ ?_ ?_ (c_least _ (by assumption) _ _) ?_ ?_ ?_; walk_at "my sides"); walk_at "my value")
  k_with "call ref" => (k_here; (with_reducible show wpAny _ _ (call (Value.ref 69) _ _) _ _ _); k_dflt (refine' Cl.use ?_ ?_ ?_ ?_ ?_ ?_ (c_greatest _ (by assumption) _ _) ?_ ?_ ?_; walk_at "my sides"); walk_at "my value")
  k_with "call ref" => (k_here; (with_reducible show wpAny _ _ (call (Value.ref 174) _ _) _ _ _); k_dflt (refine' Cl.use ?_ ?_ ?_ ?_ ?_ ?_ (c_lowest _ (by assumption) _ _ _ _) ?_ ?_ ?_; walk_at "my sides"); walk_at "my value")
  k_with "call ref" => (k_here; (with_reducible show wpAny _ _ (call (Value.ref 83) _ _) _ _ _); k_dflt (refine' Cl.use ?_ ?_ ?_ ?_ ?_ ?_ (c_wrapped _ (by assumption) _ _ _ _) ?_ ?_ ?_; walk_at "my sides"); walk_at "my value")
  k_with "binaryOp Add int int" => (k_here; (refine' add_intG  ?_); intro _ _; (try dsimp only))
  k_with "binaryOp Sub int int" => (k_here; (refine' sub_intG  ?_); intro _ _; (try dsimp only))
  k_with "binaryOp Mult int int" => (k_here; (refine' mul_intG ?e0 ?_); (case e0 => with_reducible assumption); intro _ _; (try dsimp only))
  k_with "binaryOp FloorDiv int int" => (k_here; (refine' div_intG ?e0 ?e1 ?_); (case e0 => with_reducible assumption); (case e1 => with_reducible assumption); intro _ _; (try dsimp only))
  k_with "binaryOp Mod int int" => (k_here; (refine' mod_intG ?e0 ?_); (case e0 => with_reducible assumption); intro _ _; (try dsimp only))
  k_with "binaryOp Pow int int" => (k_here; (refine' pow_intG ?e0 ?e1 ?e2 ?_); (case e0 => first | with_reducible assumption | decide); (case e1 => first | with_reducible assumption | decide); (case e2 => decide); intro _ _; (try dsimp only))
  k_with "call ref" => (k_here; (with_reducible show wpAny _ _ (call (Value.ref 153) _ _) _ _ _); k_dflt (refine' Cl.use ?k1 ?k2 ?k3 ?k4 ?k5 ?kK (c_takeU _ _ _ _ _ _ _ _ ?kx ?ky ?kz ?kp ?kq ?kU) ?kd ?ku ?_); (case k4 => k_asm); (case kU => k_updF); (case kx => assumption); (case ky => assumption); (case kz => assumption); (case kp => first | assumption | decide); (case kq => first | assumption | decide); (case k1 => k_asm); (case k2 => k_asm); (case k3 => k_asm); (case k5 => k_asm); (case kK => first | exact rfl | assumption); (case kd => first | exact room1 (by with_reducible assumption) (by decide) | ((try dsimp only [ktrTop]); omega) | ktr_room); (case ku => first | exact unit1 (by with_reducible assumption) (by decide) | ((try dsimp only [ktrTop]); omega) | ktr_units); intro r9 x9 y9 t9 v9 w9 c9 h9 tk9 r9a r9b x9a y9a y9b F9 N9; (try dsimp only at N9); (try dsimp only); (try k_sweep); (try k_fold))
  k_with "call ref" => (k_here; (with_reducible show wpAny _ _ (call (Value.ref 90) _ _) _ _ _); k_dflt (refine' Cl.use ?_ ?_ ?_ ?_ ?_ ?_ (c_cast _ (by assumption) _ _ _ _) ?_ ?_ ?_; walk_at "my sides"); walk_at "my value")
  k_with "call ref" => (k_here; (with_reducible show wpAny _ _ (call (Value.ref 214) _ _) _ _ _); k_dflt (refine' Cl.use ?_ ?_ ?_ ?_ ?_ ?_ (c_order _ _ _ _ _) ?_ ?_ ?_; walk_at "my sides"); walk_at "my value")
  k_with "call ref" => (k_here; (with_reducible show wpAny _ _ (call (Value.ref 125) _ _) _ _ _); k_dflt (refine' Cl.use ?_ ?_ ?_ ?_ ?_ ?_ (c_neg _ (by assumption) _ _ _ _) ?_ ?_ ?_; walk_at "my sides"); walk_at "my pair")
  k_with "call ref" => (k_here; (with_reducible show wpAny _ _ (call (Value.ref 132) _ _) _ _ _); k_dflt (refine' Cl.use ?_ ?_ ?_ ?_ ?_ ?_ (c_inv _ (by assumption) _ _ _ _) ?_ ?_ ?_; walk_at "my sides"); walk_at "my value")
  k_with "call ref" => (k_here; (with_reducible show wpAny _ _ (call (Value.ref 181) _ _) _ _ _); k_dflt (refine' Cl.use ?k1 ?k2 ?k3 ?k4 ?k5 ?kK (c_numberU _ ?ki _ _ _ _ _ _ _ ?kx ?ky ?kz ?kU) ?kd ?ku ?_); (case k4 => k_asm); (case kU => k_updF); (case ki => with_reducible assumption); (case kx => assumption); (case ky => assumption); (case kz => assumption); (case k1 => k_asm); (case k2 => k_asm); (case k3 => k_asm); (case k5 => k_asm); (case kK => first | exact rfl | assumption); (case kd => first | exact room1 (by with_reducible assumption) (by decide) | ((try dsimp only [ktrTop]); omega) | ktr_room); (case ku => first | exact unit1 (by with_reducible assumption) (by decide) | ((try dsimp only [ktrTop]); omega) | ktr_units); intro r9 x9 y9 t9 v9 w9 c9 h9 tk9 r9a r9b x9a y9a y9b F9 N9; (try dsimp only at N9); (have n9f := num_facts (by with_reducible assumption) r9a r9b); obtain ⟨n9f, n9g⟩ := n9f; (try dsimp only); (try k_sweep); (try k_fold))
  k_with "call ref" => (k_here; (with_reducible show wpAny _ _ (call (Value.ref 111) [_, Value.str (Str.ofString "+") _, _, _] _) _ _ _); k_dflt (refine' Cl.use ?_ ?_ ?_ ?_ ?_ ?_ (c_chk_add _ (by with_reducible assumption) _ _ (by first | with_reducible assumption | decide) (by with_reducible assumption) _ _ _ _ _) ?_ ?_ ?_; walk_at "my sides"); walk_at "my pair2")
  k_with "call ref" => (k_here; (with_reducible show wpAny _ _ (call (Value.ref 111) [_, Value.str (Str.ofString "-") _, _, _] _) _ _ _); k_dflt (refine' Cl.use ?_ ?_ ?_ ?_ ?_ ?_ (c_chk_sub _ (by with_reducible assumption) _ _ (by first | with_reducible assumption | decide) (by with_reducible assumption) _ _ _ _ _) ?_ ?_ ?_; walk_at "my sides"); walk_at "my pair2")
  k_with "call ref" => (k_here; (with_reducible show wpAny _ _ (call (Value.ref 111) [_, Value.str (Str.ofString "*") _, _, _] _) _ _ _); k_dflt (refine' Cl.use ?_ ?_ ?_ ?_ ?_ ?_ (c_chk_mul _ (by with_reducible assumption) _ _ (by first | with_reducible assumption | decide) (by with_reducible assumption) _ _ _ _ _) ?_ ?_ ?_; walk_at "my sides"); walk_at "my pair2")
  k_with "call ref" => (k_here; (with_reducible show wpAny _ _ (call (Value.ref 111) [_, Value.str (Str.ofString "&") _, _, _] _) _ _ _); k_dflt (refine' Cl.use ?_ ?_ ?_ ?_ ?_ ?_ (c_chk_and _ (by with_reducible assumption) _ _ (by first | with_reducible assumption | decide) (by with_reducible assumption) _ _ _ _ _) ?_ ?_ ?_; walk_at "my sides"); walk_at "my pair2")
  k_with "call ref" => (k_here; (with_reducible show wpAny _ _ (call (Value.ref 111) [_, Value.str (Str.ofString "|") _, _, _] _) _ _ _); k_dflt (refine' Cl.use ?_ ?_ ?_ ?_ ?_ ?_ (c_chk_or _ (by with_reducible assumption) _ _ (by first | with_reducible assumption | decide) (by with_reducible assumption) _ _ _ _ _) ?_ ?_ ?_; walk_at "my sides"); walk_at "my pair2")
  k_with "call ref" => (k_here; (with_reducible show wpAny _ _ (call (Value.ref 111) [_, Value.str (Str.ofString "^") _, _, _] _) _ _ _); k_dflt (refine' Cl.use ?_ ?_ ?_ ?_ ?_ ?_ (c_chk_xor _ (by with_reducible assumption) _ _ (by first | with_reducible assumption | decide) (by with_reducible assumption) _ _ _ _ _) ?_ ?_ ?_; walk_at "my sides"); walk_at "my pair2")
  k_with "call ref" => (k_here; (with_reducible show wpAny _ _ (call (Value.ref 202) [_, Value.str (Str.ofString "+") _, _, _] _) _ _ _); k_dflt (refine' Cl.use ?_ ?_ ?_ ?_ ?_ ?_ (c_due_add _ (by with_reducible assumption) _ _ (by first | with_reducible assumption | decide) (by with_reducible assumption) _ _ _ _ _) ?_ ?_ ?_; walk_at "my sides"); walk_at "my pair2")
  k_with "call ref" => (k_here; (with_reducible show wpAny _ _ (call (Value.ref 202) [_, Value.str (Str.ofString "-") _, _, _] _) _ _ _); k_dflt (refine' Cl.use ?_ ?_ ?_ ?_ ?_ ?_ (c_due_sub _ (by with_reducible assumption) _ _ (by first | with_reducible assumption | decide) (by with_reducible assumption) _ _ _ _ _) ?_ ?_ ?_; walk_at "my sides"); walk_at "my pair2")
  k_with "call ref" => (k_here; (with_reducible show wpAny _ _ (call (Value.ref 202) [_, Value.str (Str.ofString "*") _, _, _] _) _ _ _); k_dflt (refine' Cl.use ?_ ?_ ?_ ?_ ?_ ?_ (c_due_mul _ (by with_reducible assumption) _ _ (by first | with_reducible assumption | decide) (by with_reducible assumption) _ _ _ _ _) ?_ ?_ ?_; walk_at "my sides"); walk_at "my pair2")
  k_with "call ref" => (k_here; (with_reducible show wpAny _ _ (call (Value.ref 111) [_, Value.str (Str.ofString "/") _, _, _] _) _ _ _); k_dflt (refine' Cl.use ?_ ?_ ?_ ?_ ?_ ?_ (c_chk_divA _ (by with_reducible assumption) _ _ (by first | with_reducible assumption | decide) (by with_reducible assumption) (by with_reducible assumption) (by with_reducible assumption) _ _ _ _ _) ?_ ?_ ?_; walk_at "my sides"); walk_at "my pair2")
  k_with "call ref" => (k_here; (with_reducible show wpAny _ _ (call (Value.ref 202) [_, Value.str (Str.ofString "/") _, _, _] _) _ _ _); k_dflt (refine' Cl.use ?_ ?_ ?_ ?_ ?_ ?_ (c_due_divA _ (by with_reducible assumption) _ _ (by first | with_reducible assumption | decide) (by with_reducible assumption) _ _ _ _ _) ?_ ?_ ?_; walk_at "my sides"); walk_at "my pair2")
  k_with "call ref" => (k_here; (with_reducible show wpAny _ _ (call (Value.ref 111) [_, Value.str (Str.ofString "%") _, _, _] _) _ _ _); k_dflt (refine' Cl.use ?_ ?_ ?_ ?_ ?_ ?_ (c_chk_modA _ (by with_reducible assumption) _ _ (by first | with_reducible assumption | decide) (by with_reducible assumption) (by with_reducible assumption) (by with_reducible assumption) _ _ _ _ _) ?_ ?_ ?_; walk_at "my sides"); walk_at "my pair2")
  k_with "call ref" => (k_here; (with_reducible show wpAny _ _ (call (Value.ref 202) [_, Value.str (Str.ofString "%") _, _, _] _) _ _ _); k_dflt (refine' Cl.use ?_ ?_ ?_ ?_ ?_ ?_ (c_due_modA _ (by with_reducible assumption) _ _ (by first | with_reducible assumption | decide) (by with_reducible assumption) _ _ _ _ _) ?_ ?_ ?_; walk_at "my sides"); walk_at "my pair2")
  k_with "call ref" => (k_here; (with_reducible show wpAny _ _ (call (Value.ref 111) [_, Value.str (Str.ofString "<<") _, _, _] _) _ _ _); k_dflt (refine' Cl.use ?_ ?_ ?_ ?_ ?_ ?_ (c_chk_shl _ (by with_reducible assumption) _ _ (by with_reducible assumption) _ _ _ _ _) ?_ ?_ ?_; walk_at "my sides"); walk_at "my pair2")
  k_with "call ref" => (k_here; (with_reducible show wpAny _ _ (call (Value.ref 118) [_, Value.str (Str.ofString "<<") _, _, _] _) _ _ _); k_dflt (refine' Cl.use ?_ ?_ ?_ ?_ ?_ ?_ (c_shl _ (by with_reducible assumption) _ _ (by with_reducible assumption) _ _ _ _ _) ?_ ?_ ?_; walk_at "my sides"); walk_at "my pair2")
  k_with "call ref" => (k_here; (with_reducible show wpAny _ _ (call (Value.ref 209) [_, Value.str (Str.ofString "<<") _, _, _] _) _ _ _); k_dflt (refine' Cl.use ?_ ?_ ?_ ?_ ?_ ?_ (c_mov_shl _ (by with_reducible assumption) _ _ (by with_reducible assumption) (by with_reducible assumption) _ _ _ _ _) ?_ ?_ ?_; walk_at "my sides"); walk_at "my pair2")
  k_with "call ref" => (k_here; (with_reducible show wpAny _ _ (call (Value.ref 111) [_, Value.str (Str.ofString ">>") _, _, _] _) _ _ _); k_dflt (refine' Cl.use ?_ ?_ ?_ ?_ ?_ ?_ (c_chk_shr _ (by with_reducible assumption) _ _ (by with_reducible assumption) _ _ _ _ _) ?_ ?_ ?_; walk_at "my sides"); walk_at "my pair2")
  k_with "call ref" => (k_here; (with_reducible show wpAny _ _ (call (Value.ref 118) [_, Value.str (Str.ofString ">>") _, _, _] _) _ _ _); k_dflt (refine' Cl.use ?_ ?_ ?_ ?_ ?_ ?_ (c_shr _ (by with_reducible assumption) _ _ (by with_reducible assumption) _ _ _ _ _) ?_ ?_ ?_; walk_at "my sides"); walk_at "my pair2")
  k_with "call ref" => (k_here; (with_reducible show wpAny _ _ (call (Value.ref 209) [_, Value.str (Str.ofString ">>") _, _, _] _) _ _ _); k_dflt (refine' Cl.use ?_ ?_ ?_ ?_ ?_ ?_ (c_mov_shr _ (by with_reducible assumption) _ _ (by with_reducible assumption) (by with_reducible assumption) _ _ _ _ _) ?_ ?_ ?_; walk_at "my sides"); walk_at "my pair2")
  k_with "call ref" => (k_here; (with_reducible show wpAny _ _ (call (Value.ref 195) _ _) _ _ _); k_dflt (refine' ClW.use ?k1 ?k2 ?k3 ?k4 ?k5 ?kK (c_bitwise _ ?ki _ _ _ _ _ _) ?kd ?ku ?_); (case ki => assumption); (case k1 => k_asm); (case k2 => k_asm); (case k3 => k_asm); (case k4 => k_asm); (case k5 => k_asm); (case kK => first | exact rfl | assumption); (case kd => first | exact room1 (by with_reducible assumption) (by decide) | ((try dsimp only [ktrTop]); omega) | ktr_room); (case ku => first | exact unit1 (by with_reducible assumption) (by decide) | ((try dsimp only [ktrTop]); omega) | ktr_units); intro D9 o9 k9 k9' k9'' t9 t9' t9'' h9 tk9 F9 N9 l9 lo9 hd9 hf9; (try k_lt l9); (try dsimp only [bwPairs] at hd9 hf9); (try dsimp only); (try k_sweep); (try k_fold))
  k_with "compareOp NotEq ref ref" => (k_here; k_dflt (first | (refine' ne_or ?k1 ?k2 ?k3 ?k4 ?_; (case k1 => k_asm); (case k2 => k_mem); (case k3 => k_mem); (case k4 => exact unit64 (d := 7) (by with_reducible assumption))) | (refine' ne_pair_ib ?k1 ?k2 ?k3 ?k4 ?e1 ?e2 ?_; (case k1 => k_asm); (case k2 => k_mem); (case k3 => k_mem); (case k4 => exact unit64 (d := 7) (by with_reducible assumption)); (case e1 => with_reducible first | rfl | exact and_eq (by assumption) _ _ | exact or_eq (by assumption) _ _ | exact xor_eq (by assumption) _ _); (case e2 => with_reducible first | rfl | exact and_fits (by assumption) (by assumption) (by assumption) | exact or_fits (by assumption) (by assumption) (by assumption) | exact xor_fits (by assumption) (by assumption) (by assumption))) | (refine' ne_pair_ii ?k1 ?k2 ?k3 ?k4 ?e1 ?e2 ?_; (case k1 => k_asm); (case k2 => k_mem); (case k3 => k_mem); (case k4 => exact unit64 (d := 7) (by with_reducible assumption)); (case e1 => rfl); (case e2 => rfl))))
  k_with "compareOp Eq int int" => (k_here; refine eq_int_same ?_ ?_; (focus rfl))
  k_with "compareOp NotEq int int" => (k_here; refine ne_int_same ?_ ?_; (focus exact congrArg _ (by omega)))
  k_with "binaryOp Mult int int" => (k_here; (refine' mul_intG (mulOk (j := 64) (k := 64) ?e0 ?e1 (by decide)) ?_); (case e0 => with_reducible assumption); (case e1 => decide); intro _ _; (try dsimp only))
  k_with "exec For Name List cons nil" => (k_here; (rename Fr _ _ _ _ => lF'); (with_unfolding_all refine' For_invVF lF' ?k1 ?k2 ?_; (case k1 => exact rfl); (case k2 => exact rfl); k_whole))
  k_with "pyIter ref" => (k_here; k_dflt (refine' each_of (Str.ofString "due") ?k1 ?k2 ?k3 ?k4 ?_ ?_; (case k1 => exact rfl); (case k2 => k_asm); (case k3 => k_asm); (case k4 => k_mem); (focus (repeat' (first | exact True.intro | refine And.intro ?_ ?_))); (all_goals (first | (intro u' h' tk'; (refine fun (tail' : List (Addr × Obj)) => ?_); intro F' N'; (try simp only [List.cons_append, List.nil_append] at N'); (try dsimp only); (try k_sweep); (try k_fold)) | (intro u' h' tk' F' N'; (try dsimp only); (try k_sweep); (try k_fold))))))
  k_with "TurnBack" => (k_dflt (refine TurnBack.intro (by k_asm) (by k_asm) (by repeat (first | exact sub0 | refine subS ?_)) ?_); (intro z9 hz1 hz2; (first | rfl | (simp only [hz1, hz2, if_false]; done) | (dsimp only; simp only [hz1, hz2, if_false]; done))))
  trivial
set_option maxRecDepth 100000 in
set_option maxHeartbeats 40000000 in
theorem c_kind_right (i : Nat) (hi : i < 9) (S : Addr) (x y : Int) (tx ty t : Tok) (c : Nat) (rest : List (Addr × Obj)) (hx : 0 ≤ x) (hy : 0 ≤ y) (hy2 : y < 2147483647) (hne : ∀ p ∈ rest, p.1 ≠ S) :
    Cl 7 221 ((S, listOf #[.int x tx, .int y ty] c) :: rest) [.ref S, .str (kn i) t] (fun h₀ L m s Q => Ret h₀ L m rest s Q (fun _ => .bool true)) := by
  intro w mean mg mb dp un gd cn cs a0 ccd cl outer A₀ base h₀ L m s Q E B F X N T hk hd hu hret
  refine wpAny_call ?_
  k_dflt cell_enter
  repeat' (first | (k_unfold; (try dsimp only)) | (k_end; (fail_if_success (with_reducible show Q _ _)); wrow_close) | (k_end; (with_reducible show Q _ _); fail "an end") | (walk1; (try dsimp only)) | (dsimp only; walk1) | (leave1; try dsimp only) | fail "no step")
  all_goals first | exact ret_b hret rfl (by k_asm) (by k_asm) (by repeat (first | exact sub0 | refine subS ?_))
end
section
open PySem PySem.W PyProof.Rows PySem.Calls PySem.Spec
theorem ite01 (c : Prop) [Decidable c] : (0 : Int) ≤ if c then 1 else 0 := by split <;> decide
theorem mulR {a b : Int} (hb : b.natAbs < 2 ^ 64) : IntMulOk a b := IntMulOk.of_right (PySem.intBits_le_iff.mpr hb)
/-- a new source comes back -/
abbrev RetL (news : List (Addr × Obj)) (h₀ : Heap) (L : Addr) (m : Str → Option Value) (s : Shared) (Q : Value → Shared → Prop) : Prop :=
  ∀ (D : Addr) (x y : Int) (tx ty : Tok) (c : Nat) (h' : Heap) (tk' : Nat), 0 ≤ x → 0 ≤ y → y < 2147483647 → Fr h₀ L h' m → News h₀ L h' ((D, listOf #[.int x tx, .int y ty] c) :: news) → (∀ p ∈ news, p.1 < D) → Q (.ref D) { s with heap := h', toks := tk' }
theorem ret_l {news : List (Addr × Obj)} {h₀ : Heap} {L : Addr} {m : Str → Option Value} {s : Shared} {Q : Value → Shared → Prop} {D : Addr} {x y : Int} {tx ty : Tok} {c : Nat} {h' : Heap} {tk' : Nat} {news' : List (Addr × Obj)}
    (hret : RetL news h₀ L m s Q) (F : Fr h₀ L h' m) (N : News h₀ L h' ((D, listOf #[.int x tx, .int y ty] c) :: news')) (l : ∀ p ∈ news, p.1 < D) (hs : ∀ p ∈ news, p ∈ news') (a : 0 ≤ x) (b : 0 ≤ y ∧ y < 2147483647) : Q (.ref D) { s with heap := h', toks := tk' } :=
  hret D x y tx ty c h' tk' a b.1 b.2 F (fun p hp => by
    rcases List.mem_cons.mp hp with rfl | hp
    · exact N _ (.head _)
    · exact N p (.tail _ (hs p hp))) l
section
variable {prog : Program} {w : World} {A : Around} {E : Value → Shared → Prop} {s : Shared} {env : Env} {h₀ : Heap} {x : Str} {body : List Stmt} {Q : Flow → Shared → Prop}
theorem rng_lo (n : Int) : 0 < if (if n < 2 then n else 2) > 1 then (if n < 2 then n else 2) else 1 := by
  by_cases h : n < 2
  · simp only [if_pos h]; split <;> omega
  · simp only [if_neg h]; decide
theorem rng_hi (n : Int) : (if (if n < 2 then n else 2) > 1 then (if n < 2 then n else 2) else 1) ≤ 2 := by
  by_cases h : n < 2
  · simp only [if_pos h]; split <;> omega
  · simp only [if_neg h]; decide
theorem each_range {r : Addr} {b₀ : Int} {t₀ u₀ v₀ : Tok} (x2 : Str) {m₀ : Str → Option Value} {news : List (Addr × Obj)} (hh : A.handled = none)
    (hr : IsRange s.heap r 0 b₀ 1 t₀ u₀ v₀) (hb : 0 < b₀) (hb2 : b₀ ≤ 2)
    (F : Fr h₀ env.locals s.heap m₀) (N : News h₀ env.locals s.heap news)
    (turn : ∀ (v : Int) (t : Tok) (u : Str → Option Value) (h : Heap) (tk : Nat), 0 ≤ v → v < 2 → ∀ (tail : List (Addr × Obj)), Fr h₀ env.locals h (fun y => if y = x then some (.int v t) else if y = x2 then u y else m₀ y) → News h₀ env.locals h (news ++ tail) →
      wpAny (model prog w) A (execs body env) (TurnBack h₀ env.locals x x2 m₀ (news ++ tail) { s with heap := h, toks := tk }) E { s with heap := h, toks := tk })
    (done : ∀ (u : Str → Option Value) h tk, Fr h₀ env.locals h (fun y => if y = x then u y else if y = x2 then u y else m₀ y) → News h₀ env.locals h news → Q .next { s with heap := h, toks := tk }) :
    wpAny (model prog w) A (pyIter (.ref r)) (fun it s₂ => LoopAtV prog w A h₀ env x body Q E it s₂) E s := by
  have hsm : Builtin.Range.small 0 b₀ 1 = true := by
    unfold Builtin.Range.small
    have hn : Builtin.Range.rangeSize 0 b₀ 1 = (b₀.toNat : Int) := by
      unfold Builtin.Range.rangeSize
      rw [if_pos (by decide), if_pos hb]; omega
    have f : ∀ z : Int, 0 ≤ z → z < 1000 → Builtin.Range.rangeFitsLong z = true := fun z h1 h2 => by unfold Builtin.Range.rangeFitsLong; simp; omega
    simp [hn]
    exact ⟨⟨⟨⟨f _ (by omega) (by omega), f _ (by omega) (by omega)⟩, f _ (by omega) (by omega)⟩, f _ (by omega) (by omega)⟩, Or.inr (f _ (by omega) (by omega))⟩
  refine wpAny_pyIter_range hr hsm ?_
  have hn : Builtin.Range.rangeSize 0 b₀ 1 = (b₀.toNat : Int) := by
    unfold Builtin.Range.rangeSize
    rw [if_pos (by decide), if_pos hb]; omega
  have W : Walks prog w A s.heap.objs.size [s.heap.objs.size] [s.heap.objs.size] b₀.toNat (fun i v => i < b₀.toNat ∧ ∃ t, v = .int (0 + (i : Int) * 1) t)
      (fun i h => IsRangeIter h s.heap.objs.size (0 + (i : Nat) * 1) ((b₀.toNat : Int) - (i : Nat)) 1) := (Walks.range hh _ 0 1 b₀.toNat).bound
  have hnew := next_is_new F
  let J : Nat → (Str → Option Value) → List (Addr × Obj) → Prop := fun _ m₁ nx => nx = news ∧ ∀ z, z ≠ x → z ≠ x2 → m₁ z = m₀ z
  refine ⟨s.heap.objs.size, [s.heap.objs.size], [s.heap.objs.size], b₀.toNat, _, _, m₀, news, J, rfl, W, ?_, ?_, ?_, (by show IsRangeIter _ _ _ _ _; rw [hn]; simpa using Heap.get?_push_size _ rfl), F.push _, (fun p hp => ⟨Heap.get?_push_of_some _ (N p hp).1, (N p hp).2⟩), ⟨rfl, fun _ _ _ => rfl⟩, ?_, ?_⟩
  · intro hm
    exact absurd F.ns.lt ((List.mem_singleton.mp hm) ▸ Nat.lt_irrefl _)
  · intro b hb
    rw [List.mem_singleton.mp hb]
    exact hnew
  · intro p hp hI
    exact absurd (Heap.lt_size (N p hp).1) ((List.mem_singleton.mp hI) ▸ Nat.lt_irrefl _)
  · rintro i v m₁ news₁ s₁ own ⟨hh', tk', rfl⟩ hin ⟨_, t, rfl⟩ ⟨rfl, hJ⟩ hoff hown hget hall hst F₁ N₁
    rw [show (0 : Int) + (i : Int) * 1 = (i : Int) by omega] at F₁
    have em : (fun y => if y = x then some (Value.int (i : Int) t) else m₁ y) = fun y => if y = x then some (Value.int (i : Int) t) else if y = x2 then m₁ y else m₀ y := by
      funext y
      by_cases e1 : y = x
      · rw [if_pos e1, if_pos e1]
      · rw [if_neg e1, if_neg e1]
        by_cases e2 : y = x2
        · rw [if_pos e2]
        · rw [if_neg e2, hJ y e1 e2]
    rw [em] at F₁
    refine wpAny_mono (turn (i : Int) t m₁ hh' tk' (by omega) (by omega) own F₁ (fun p hp => N₁ p ((List.mem_append.mp hp).elim (fun h => List.mem_append_right _ h) fun h => List.mem_append_left _ h))) (fun f s₂ p => ?_) fun _ _ e => e
    obtain ⟨rfl, h', tk, m', rfl, F', e', N'⟩ := p
    exact .next ⟨rfl, h', tk, m', news₁, rfl, F', fun p hp => N' p ((List.mem_append.mp hp).elim (fun h => List.mem_append_right _ h) fun h => List.mem_append_left _ h), hoff, rfl, e'⟩
  · rintro h' tk m' news' F' N' _ ⟨rfl, hJ⟩
    refine done m' h' tk ?_ N'
    have em : m' = fun y => if y = x then m' y else if y = x2 then m' y else m₀ y := by
      funext y
      by_cases e1 : y = x
      · rw [if_pos e1]
      · rw [if_neg e1]
        by_cases e2 : y = x2
        · rw [if_pos e2]
        · rw [if_neg e2, hJ y e1 e2]
    rw [← em]
    exact F'
end
end
section
open PySem PySem.W PyProof.Rows
theorem rowsB13a : True := by
  k_with_none
  k_with "my sides" => (rotate_left 7; (focus k_asm); (focus k_asm); (focus k_asm); (focus k_asm); (focus k_asm); (focus (first | exact rfl | assumption)); (focus (first | exact room1 (by with_reducible assumption) (by decide) | ((try dsimp only [ktrTop]); omega) | ktr_room)); (focus (first | exact unit1 (by with_reducible assumption) (by decide) | ((try dsimp only [ktrTop]); omega) | ktr_units)))
  k_with "my value" => (intro t9 h9 tk9 F9 N9; (try dsimp only); (try k_sweep); (try k_fold))
  k_with "my pair" => (intro D9 t9 u9 h9 tk9 F9 N9 l9; (try dsimp only at N9); (try k_lt l9); (try dsimp only); (try k_sweep); (try k_fold))
  k_with "my pair2" => (intro D9 t9 u9 h9 tk9 F9 N9 l9; (try k_lt l9); (try dsimp only); (try k_sweep); (try k_fold))
  k_with "binaryOp Mult int int" => (k_here; (refine' mul_intG (mulR ?e0) ?_); (case e0 => first | decide | omega | (split <;> decide)); intro _ _; (try dsimp only))
  k_with "binaryOp Add int int" => (k_here; (refine' add_intG  ?_); intro _ _; (try dsimp only))
  k_with "binaryOp Sub int int" => (k_here; (refine' sub_intG  ?_); intro _ _; (try dsimp only))
  k_with "binaryOp Mod int int" => (k_here; (refine' mod_intG ?e0 ?_); (case e0 => first | with_reducible assumption | decide); intro _ _; (try dsimp only))
  k_with "binaryOp Pow int int" => (k_here; (refine' pow_intG ?e0 ?e1 ?e2 ?_); (case e0 => first | with_reducible assumption | decide); (case e1 => first | with_reducible assumption | decide); (case e2 => decide); intro _ _; (try dsimp only))
  trivial
set_option maxRecDepth 100000 in
set_option maxHeartbeats 4000000 in
theorem c_pool (S : Addr) (vs : List Value) (ns : List Int) (hv : IntsAre vs ns) (hn : ns.length ≤ 63) (k : Int) (hk0 : 0 ≤ k) (hk1 : k < 2) (t : Tok) (news : List (Addr × Obj)) :
    Cl 1 146 news [.ref S, .int k t] (fun h₀ L m s Q => h₀.IsList S vs.toArray ∧ RetL news h₀ L m s Q) := by
  intro w mean mg mb dp un gd cn cs a0 ccd cl outer A₀ base h₀ L m s Q E B F X N T hk hd hu hret
  obtain ⟨hS, hret⟩ := hret
  refine wpAny_call ?_
  k_dflt cell_enter
  rename Fr h₀ L _ m => FG9
  have hS9 := Fr.lst FG9 hS
  repeat' (first | (k_unfold; (try dsimp only)) | (k_end; (fail_if_success (with_reducible show Q _ _)); wrow_close) | (k_end; (with_reducible show Q _ _); fail "an end") | (walk1; (try dsimp only)) | (dsimp only; walk1) | (leave1; try dsimp only) | fail "no step")
  all_goals first | exact ret_l hret (by k_asm) (by k_asm) (by first | assumption | exact lt_of_all (And.right (by assumption)) | exact lt_of_all (And.right (And.right (by assumption))) | exact lt_of_all (And.right (And.right (And.right (by assumption))))) (by repeat (first | exact sub0 | refine subS ?_)) (Int.mul_nonneg (by split <;> omega) (ite01 _)) (fmod_rng _ (by decide))
end
section
open PySem PySem.W PyProof.Rows PySem.Calls PySem.Spec PyProof.V
/-- a new exception of a class of the program's own, whatever its fields hold -/
structure NewO (h h' : Heap) (e : Addr) (cls : Value) : Prop where
  keeps : ∀ b o, h.get? b = some o → h'.get? b = some o
  new : h.get? e = none
  there : ∃ dx sl t, h'.get? e = some ⟨cls, some dx, .fields #[.ref t, .none, .none, .none, .bool false, .none], sl⟩
section
variable {M : Model} {A : Around} {E : Value → Shared → Prop} {s' : Shared} {base g g₂ h : Heap} {outer : List Env} {L a e t : Addr} {m : Str → Option Value} {name : Str} {scope : Scope} {cd : Value} {Q : Unit → Shared → Prop} {news : List (Addr × Obj)}
theorem leave_newO {cls : Value} (K : Below A base outer g) (hx : NewO h s'.heap e cls) (F : Fr g L h m) (N : News g L h news)
    (hQ : ∀ h', RaisedN base outer e cls news h' → g.UpToSlots h' → Q () { s' with heap := h' }) (hk : scope.kind = .function := by rfl) :
    wpAny M (A.deeper (envOf name scope L a cd)) (leaving (envOf name scope L a cd) (.ref e)) Q E s' := by
  have K' := K.push (name := name) (a := a) (cd := cd) F hk
  have hin : ∀ env ∈ (envOf name scope L a cd :: outer), ∀ b, env.frame = some b → b ∈ (envOf name scope L a cd :: outer).filterMap (·.frame) := fun env he b hb => List.mem_filterMap.mpr ⟨env, he, hb⟩
  have st : base.StaysIn (hideAll h ((envOf name scope L a cd :: outer).filterMap (·.frame))) := fun b o q => hideAll_get _ (K'.stays b o q) fun hm => by
    rw [(K'.frames.mem hm).1] at q; cases q
  have hl : ∀ q ∈ news, (hideAll h ((envOf name scope L a cd :: outer).filterMap (·.frame))).get? q.1 = some q.2 ∧ base.get? q.1 = none := fun q hq => by
    refine ⟨hideAll_get _ (N q hq).1 fun hm => ?_, fresh_of_stays K.stays (N q hq).2.2⟩
    obtain ⟨env, he, hf⟩ := List.mem_filterMap.mp hm
    rcases List.mem_cons.mp he with rfl | he
    · exact (N q hq).2.1 (Option.some.inj hf).symm
    · obtain ⟨o, ho, _⟩ := (K.frames.mem (List.mem_filterMap.mpr ⟨env, he, hf⟩)).2
      rw [(N q hq).2.2] at ho; cases ho
  obtain ⟨dx, sl, tp, he⟩ := hx.there
  have hen : (hideAll h ((envOf name scope L a cd :: outer).filterMap (·.frame))).get? e = none := by
    cases q : (hideAll h ((envOf name scope L a cd :: outer).filterMap (·.frame))).get? e with
    | none => rfl
    | some o => have := of_hideAll _ q; rw [hx.new] at this; cases this
  refine wpAny_leaving_firstW (a0 := .ref tp) K'.stack ((funFrames_hide K'.frames hin).of_keeps fun b o hb _ => ⟨o, hx.keeps b o hb, rfl⟩) rfl he (fun b o hb => hx.keeps b o (of_hideAll _ hb)) hen rfl rfl rfl fun h' hL => ?_
  obtain ⟨k1, ⟨_, _, k2⟩, k3, k4⟩ := hL
  exact hQ h' ⟨_, .ref tp, st, hl, k1, hen, k2, k3⟩ (((Heap.UpToSlots.of_keeps F.keep).trans (Heap.UpToSlots.of_keeps hx.keeps)).trans k4)
end
section
variable {M : Model} {A : Around} {E : Value → Shared → Prop} {env : Env}
variable {nm q : Str} {C N : Addr} {bs bm : List Value} {hdct : Bool} {sn : List Str} {sub : List Value} {ab : Bool} {col : Option Bool} {dd : Option Addr} {k0 k1 k2 k3 k5 : Option Value} {newId : String}
theorem raise_made {s : Shared} {x : Sem Value} {Q : Flow → Shared → Prop} (hbase : bm.contains (.type "BaseException") = true) (hh : A.handled = none)
    (h : wpAny M A x (fun v s₁ => ∃ e t dx sl, v = .ref e ∧ s₁.heap.get? C = some (excClassObj nm q C N bs bm hdct sn sub ab col dd k0 k1 k2 k3 k5 newId) ∧
      s₁.heap.get? e = some ⟨.ref C, some dx, .fields #[.ref t, .none, .none, .none, .bool false, .none], sl⟩ ∧ E (.ref e) s₁) E s) :
    wpAny M A (raiseStmt env (some x) none) Q E s := by
  have hcB : (Value.ref C :: bm).contains (.type "BaseException") = true := by rw [List.contains_cons, hbase, Bool.or_true]
  unfold raiseStmt
  refine wpAny_bind (wpAny_mono h (fun v s₁ h₁ => ?_) fun _ _ x => x)
  obtain ⟨e, t, dx, sl, rfl, hC, he, hE⟩ := h₁
  obtain ⟨hp, g, d, tk, os⟩ := s₁
  repeat (first | with_reducible refine wpAny_loadPart_at he ?_ | with_reducible refine wpAny_loadPart_at hC ?_ | (with_reducible refine wpAny_isSubtype_exc hC ?_; rw [hcB]) | wp_step)
  exact wpAny_raiseNew_none hh hE
theorem raise_own {s : Shared} {e : Expr} {pos : Pos} {Q : Flow → Shared → Prop} (hbase : bm.contains (.type "BaseException") = true) (hh : A.handled = none)
    (h : wpAny M A (eval e env) (fun v s₁ => ∃ e t dx sl, v = .ref e ∧ s₁.heap.get? C = some (excClassObj nm q C N bs bm hdct sn sub ab col dd k0 k1 k2 k3 k5 newId) ∧
      s₁.heap.get? e = some ⟨.ref C, some dx, .fields #[.ref t, .none, .none, .none, .bool false, .none], sl⟩ ∧ E (.ref e) s₁) E s) :
    wpAny M A (exec (.Raise (some e) none pos) env) Q E s := by
  show wpAny M A (do standAt pos; raiseStmt env (some (do let v ← eval e env; standAt pos; pure v)) none) Q E s
  refine wpAny_bind (wpAny_standAt (raise_made (C := C) (nm := nm) (q := q) (N := N) (bs := bs) (bm := bm) (hdct := hdct) (sn := sn) (sub := sub) (ab := ab) (col := col) (dd := dd) (k0 := k0) (k1 := k1) (k2 := k2) (k3 := k3) (k5 := k5) (newId := newId) hbase hh ?_))
  exact wpAny_bind (wpAny_mono h (fun v s₁ h₁ => wpAny_bind (wpAny_standAt (wpAny_pure h₁))) fun _ _ x => x)
end
theorem clsTF (P : Params) : ∃ nm q N bs hdct sn sub ab col dd k0 k1 k2 k3 k5 newId, (Mine.kf.heap_1 P).lookup 45 = some (excClassObj nm q 45 N bs [.ref 32, .type "Exception", .type "BaseException", .type "object"] hdct sn sub ab col dd k0 k1 k2 k3 k5 newId) :=
  ⟨_, _, _, _, _, _, _, _, _, _, _, _, _, _, _, _, by with_unfolding_all rfl⟩
def RaisableO (P : Params) (E : Value → Shared → Prop) (v : Value) (s₁ : Shared) : Prop :=
  (Mine.kf.heap_1 P).In s₁.heap ∧ ∃ e t dx sl, v = .ref e ∧ s₁.heap.get? e = some ⟨.ref 45, some dx, .fields #[.ref t, .none, .none, .none, .bool false, .none], sl⟩ ∧ E (.ref e) s₁
theorem raise_TF {w : World} {A : Around} {E : Value → Shared → Prop} {env : Env} {s : Shared} {e : Expr} {pos : Pos} {Q : Flow → Shared → Prop} (hh : A.handled = none)
    (h : wpAny (model PySem.Challenge.rw_nu0375_01.row.prog w) A (eval e env) (RaisableO w.params E) E s) :
    wpAny (model PySem.Challenge.rw_nu0375_01.row.prog w) A (exec (.Raise (some e) none pos) env) Q E s := by
  obtain ⟨nm, q, N, bs, hdct, sn, sub, ab, col, dd, k0, k1, k2, k3, k5, newId, hK⟩ := clsTF w.params
  refine raise_own (C := 45) (nm := nm) (q := q) (N := N) (bs := bs) (bm := [.ref 32, .type "Exception", .type "BaseException", .type "object"]) (hdct := hdct) (sn := sn) (sub := sub) (ab := ab) (col := col) (dd := dd) (k0 := k0) (k1 := k1) (k2 := k2) (k3 := k3) (k5 := k5) (newId := newId) (by rfl) hh ?_
  refine wpAny_mono h (fun v s₁ h₁ => ?_) fun _ _ z => z
  obtain ⟨X, e, t, dx, sl, rfl, he, hE⟩ := h₁
  exact ⟨e, t, dx, sl, rfl, X _ _ hK, he, hE⟩
theorem nameTF (P : Params) : nsIn (Mine.kf.heap_1 P) mainGlobals (Str.ofString "TypeFault") = some (some (.ref 45)) := by with_unfolding_all rfl
end
section
open PySem PySem.W PyProof.Rows PySem.Calls PySem.Spec PyProof.V
set_option maxRecDepth 100000
section
variable {M : Model} {A : Around} {E : Value → Shared → Prop} {h : Heap} {g : Array GenState} {d : Drawn} {t : Nat} {os : OsState}
variable {nm q : Str} {C N : Addr} {bs bm bmB : List Value} {hdct : Bool} {sn : List Str} {sub : List Value} {ab : Bool} {col : Option Bool} {dd : Option Addr} {k0 k1 k2 k3 k5 : Option Value} {B newId initId : String}
theorem check_new_own (F : ExcBaseFacts B newId initId bmB) (hB : bm.contains (.type B) = true) {rest : List Value} {Q : Unit → Shared → Prop} (hC : h.get? C = some (excClassObj nm q C N bs bm hdct sn sub ab col dd k0 k1 k2 k3 k5 newId))
    (hq : Q () ⟨h, g, d, t, os⟩) : wpAny M A (checkBuiltinCall newId ⟨.ref C :: rest, []⟩) Q E ⟨h, g, d, t, os⟩ := by
  have hcont : (Value.ref C :: bm).contains (.type B) = true := by rw [List.contains_cons, hB, Bool.or_true]
  have hstar := F.noStar
  simp only [checkBuiltinCall, F.newKind, F.newSplit, F.newRow]
  repeat (first | refine wpAny_loadPart_at hC ?_ | (refine wpAny_isSubtype_exc hC ?_; rw [hcont]) | refine wpAny_staticBase_exc hC ?_ | refine wpAny_madeBy_exc hC ?_ | simp only [bne_self_eq_false, Bool.false_eq_true, if_false] | wp_step)
  exact hq
end
section
variable {prog : Program} {w : World} {A : Around} {R : Result → Shared → Prop} {E : Value → Shared → Prop} {h : Heap} {g : Array GenState} {d : Drawn} {t : Nat} {os : OsState}
variable {nm q : Str} {C N : Addr} {bs bm bmB : List Value} {hdct : Bool} {sn : List Str} {sub : List Value} {ab : Bool} {col : Option Bool} {dd : Option Addr} {k0 k1 k2 k3 k5 : Option Value} {B newId initId : String}
abbrev tupOf (rest : List Value) : Obj := { cls := .type "tuple", data := .seq rest.toArray }
abbrev excOf (C t : Addr) (dx : Option Addr) : Obj := { cls := .ref C, dict := dx, data := .fields #[.ref t, .none, .none, .none, .bool false, .none] }
theorem new_own (F : ExcBaseFacts B newId initId bmB) (hB : bm.contains (.type B) = true) (hA : bm.contains (.type "AttributeError") = false) (hN : bm.contains (.type "NameError") = false) {rest : List Value} (hC : h.get? C = some (excClassObj nm q C N bs bm hdct sn sub ab col dd k0 k1 k2 k3 k5 newId))
    (hq : R (.ok (.ret (.ref (h.objs.size + 1)))) ⟨(h.push (tupOf rest)).push (excOf C h.objs.size none), g, d, t, os⟩) (hrest : rest.length ≤ sizeLine) :
    codeAny (model prog w) A (.builtin newId ⟨.ref C :: rest, []⟩) R ⟨h, g, d, t, os⟩ := by
  have hends := F.ends
  have hcB : (Value.ref C :: bm).contains (.type B) = true := by rw [List.contains_cons, hB, Bool.or_true]
  have hcA : (Value.ref C :: bm).contains (.type "AttributeError") = false := by rw [List.contains_cons, hA]; rfl
  have hcN : (Value.ref C :: bm).contains (.type "NameError") = false := by rw [List.contains_cons, hN]; rfl
  refine codeAny_builtinAt F.entry ?_
  unfold Builtin.«BaseException.__new__»
  refine PySem.wpAt_bind ?_
  show PySem.wpAt _ _ _ (stack >>= _) _ _ _
  refine PySem.wpAt_bind (PySem.wpAt_stack fun p below => PySem.wpAt_of_wpAny ?_)
  wp_walk
  refine PySem.wpAt_of_wpAny ?_
  rw [F.owner]
  repeat (first | with_reducible refine wpAny_madeHere_exc F.canon hC ?_ | with_reducible refine wpAny_loadPart_at hC ?_ | (with_reducible refine wpAny_isSubtype_exc hC ?_; first | rw [hcB] | rw [hcA] | rw [hcN]) | wp_step)
  show R _ _
  rw [Heap.size_push]
  exact hq
theorem type_call_own (F : ExcBaseFacts B newId initId bmB) (hB : bm.contains (.type B) = true) (hA : bm.contains (.type "AttributeError") = false) (hN : bm.contains (.type "NameError") = false) {rest : List Value} {fI : Addr} {oI : Obj} {Q : Fin → Shared → Prop}
    (hC : h.get? C = some (excClassObj nm q C N bs bm hdct sn sub ab col dd k0 k1 k2 k3 k5 newId)) (hi : Looks (model prog w) h (typeLookup (.ref C) "__init__") (some (.ref fI)))
    (hfI : h.get? fI = some oI) (hfc : oI.cls = .type "function") (hrest : rest.length ≤ sizeLine)
    (hq : wpAny (model prog w) A (call (.ref fI) (.ref (h.objs.size + 1) :: rest)) (fun r s' => r = .none ∧ Q (.done (.ret (.ref (h.objs.size + 1)))) s') E ⟨(h.push (tupOf rest)).push (excOf C h.objs.size none), g, d, t, os⟩) :
    wpAny (model prog w) A (Builtin.«type.__call__» ⟨.ref C :: rest, []⟩) Q E ⟨h, g, d, t, os⟩ := by
  repeat (first | with_reducible refine wpAny_loadPart_at hC ?_ | with_reducible refine wpAny_madeBy_exc hC ?_ | wp_step)
  refine codeAny_call_builtin_code (Code.quiet_builtin _ F.quiet) (check_new_own F hB hC ?_)
  refine new_own F hB hA hN hC ?_ hrest
  show wpAny _ _ _ _ _ _
  have kp : ∀ b o, h.get? b = some o → ((h.push (tupOf rest)).push (excOf C h.objs.size none)).get? b = some o := fun b o e => Heap.get?_push_of_some _ (Heap.get?_push_of_some _ e)
  have hC₁ := kp _ _ hC
  have hfI₁ := kp _ _ hfI
  have hi₁ := hi.keeps kp
  have hget : ((h.push (tupOf rest)).push (excOf C h.objs.size none)).get? (h.objs.size + 1) = some (excOf C h.objs.size none) := by heap_get
  have hcC : (Value.ref C :: bm).contains (.ref C) = true := by simp
  unfold isInstance
  repeat (first | with_reducible refine wpAny_loadPart_at hget ?_ | (with_reducible refine wpAny_isSubtype_exc hC₁ ?_; rw [hcC]) | wp_step)
  show wpAny _ _ (typeLookup (.ref C) _) _ _ _
  refine hi₁.at ?_
  refine wpAny_holding (wpAny_bind ?_)
  unfold bindSpecial
  refine wpAny_bind (wpAny_typeOf (T := "function") ⟨_, hfI₁, hfc⟩ ?_)
  rw [if_pos (by decide)]
  refine wpAny_pure (wpAny_bind (wpAny_mono hq (fun r s' hr => ?_) fun _ _ x => x))
  obtain ⟨rfl, hQ⟩ := hr
  wp_walk
  exact hQ
theorem call_own (F : ExcBaseFacts B newId initId bmB) (hB : bm.contains (.type B) = true) (hA : bm.contains (.type "AttributeError") = false) (hN : bm.contains (.type "NameError") = false) {rest : List Value} {fI : Addr} {oI : Obj} {Q : Value → Shared → Prop}
    (hC : h.get? C = some (excClassObj nm q C N bs bm hdct sn sub ab col dd k0 k1 k2 k3 k5 newId)) (hi : Looks (model prog w) h (typeLookup (.ref C) "__init__") (some (.ref fI)))
    (hfI : h.get? fI = some oI) (hfc : oI.cls = .type "function") (hrest : rest.length ≤ sizeLine)
    (hq : wpAny (model prog w) (A.under (.builtin "type.__call__" ⟨.ref C :: rest, []⟩)) (call (.ref fI) (.ref (h.objs.size + 1) :: rest)) (fun r s' => r = .none ∧ Q (.ref (h.objs.size + 1)) s') E ⟨(h.push (tupOf rest)).push (excOf C h.objs.size none), g, d, t, os⟩) :
    wpAny (model prog w) A (call (.ref C) rest) Q E ⟨h, g, d, t, os⟩ := by
  have f1 := tc_lookup
  have f2 := tc_bind (.ref C)
  have hT : (⟨h, g, d, t, os⟩ : Shared).TypeIs (.ref C) "type" := ⟨_, hC, rfl⟩
  refine wpAny_call (codeAny_of_tree ?_)
  show wpAny _ _ (callAny (.ref C) _) _ _ _
  repeat (any_goals (first | assumption | with_reducible refine wpAny_loadPart_at hC ?_ | wp_step))
  refine ⟨rfl, ?_⟩
  refine codeAny_call_builtin_at (Code.quiet_builtin _ (by decide +kernel)) entry_typeCall (wpAny_check_type_call_sub hC (type_call_own F hB hA hN hC hi hfI hfc hrest hq))
end
section
variable {prog : Program} {w : World} {A : Around} {s : Shared} {K : Frag} {g : Heap} {mg mb : Str → Option Value} {news : List (Addr × Obj)} {p : Program} {loose : List Str} {mean : ExcName → Option Value}
  {R : Result → Shared → Prop} {name qual : Str} {params : Arguments} {body : List Stmt} {scope : Scope} {dV kV doc pm cdv ct oc : Value} {an od : Option Addr} {osl : Array (Option Value)} {f : Addr} {args : Args} {binds : List (Str × Value)}
/-- a call, entered over a base that is told -/
theorem code_base (hg : ∀ b o, g.get? b = some o → s.heap.get? b = some o) (hz : g.objs.size ≤ s.heap.objs.size) (N : ∀ p ∈ news, s.heap.get? p.1 = some p.2 ∧ g.get? p.1 = none) (X : K.In g) (T : Top p loose mean mg mb g)
    (ho : K.lookup f = some ⟨oc, od, .func (fnOf name qual params body scope dV kV doc pm an cdv ct), osl⟩) (hcd : codeIn K cdv qual = true) (hroom : A.depth < recursionLimit)
    (hbind : BindsTo s (fnOf name qual params body scope dV kV doc pm an cdv ct) args binds) (hloc : ∀ y ∈ binds, scope.names.lookup y.1 = some .local)
    (h : ∀ L' h₁, Fr g L' h₁ (fun y => binds.reverse.lookup y) → News g L' h₁ news →
      wpAny (model prog w) (A.deeper (envOf qual scope L' f cdv)) (execs body (envOf qual scope L' f cdv))
        (fun fl s' => R (.ok (.ret (match fl with | .ret v => v | _ => .none))) s')
        (fun e s' => wpAny (model prog w) (A.deeper (envOf qual scope L' f cdv)) (leaving (envOf qual scope L' f cdv) e) (fun _ s'' => R (.error e) s'') (fun e' s'' => R (.error e') s'') s')
        { s with heap := h₁, toks := s.toks + binds.length })
    (hco : scope.isCoroutine = false) (hgen : scope.isGenerator = false) (hk : scope.kind = .function)
    (hcell : ∀ x ∈ scope.names, x.2 ≠ .cell) : codeAny (model prog w) A (.call (.ref f) args) R s := by
  refine codeAny_call_def (fd := fnOf name qual params body scope dV kV doc pm an cdv ct) (body := body) (binds := binds) hroom ((X.keeps hg) _ _ ho) rfl (T.nolimit.keeps hg) (codeRec_of (X.keeps hg) hcd) rfl hbind hcell hloc (fun h₁ hns hk₁ => ?_) hco hgen hk
  exact h s.heap.objs.size h₁ ⟨hns, fun b o e => hk₁ b o (hg b o e), hz⟩ (fun p hp => ⟨hk₁ _ _ (N p hp).1, Nat.ne_of_lt (Heap.lt_size (N p hp).1), (N p hp).2⟩)
end
end
section
open PySem PySem.W PyProof.Rows PySem.Calls PySem.Spec PyProof.V
set_option maxRecDepth 100000
section
variable {prog : Program} {w : World} {A : Around} {E : Value → Shared → Prop} {h : Heap} {g : Array GenState} {d : Drawn} {t : Nat} {os : OsState}
variable {nm q : Str} {C N x : Addr} {bs bm bmB : List Value} {sn : List Str} {sub : List Value} {ab : Bool} {col : Option Bool} {dd : Option Addr} {k0 k1 k2 k3 k5 : Option Value} {B newId initId sa owner : String}
  {mA : Str → Option Value} {name : Str} {v : Value} {hdct : Bool}
theorem check_init_own (F : ExcBaseFacts B newId initId bmB) (hB : bm.contains (.type B) = true) {M : Model} {e : Addr} {oe : Obj} {rest : List Value} {Q : Unit → Shared → Prop}
    (hC : h.get? C = some (excClassObj nm q C N bs bm hdct sn sub ab col dd k0 k1 k2 k3 k5 newId)) (he : h.get? e = some oe) (hcls : oe.cls = .ref C) (hq : Q () ⟨h, g, d, t, os⟩) :
    wpAny M A (checkBuiltinCall initId ⟨.ref e :: rest, []⟩) Q E ⟨h, g, d, t, os⟩ := by
  have hcB : (Value.ref C :: bm).contains (.type B) = true := by rw [List.contains_cons, hB, Bool.or_true]
  have hshort := F.noStar
  simp only [checkBuiltinCall, F.initKind, F.initSplit, F.initRow]
  repeat (first | (with_reducible refine wpAny_loadPart_at he ?_; rw [hcls]) | with_reducible refine wpAny_loadPart_at hC ?_ | (with_reducible refine wpAny_isSubtype_exc hC ?_; rw [hcB]) | wp_step)
  refine wpAny_onRaise ?_
  rw [show ∀ (a b : String) (n : Nat), Bind.check ⟨.positional, "*", B, .self, [⟨"args", .varPos, false⟩]⟩ a b n (List.map (fun x => x.fst) ({ pos := Value.ref e :: rest } : Args).kw) = pure () from
    fun a b n => check_star_args _ _ _ _ _ _]
  exact wpAny_pure hq
theorem exc_init (F : ExcBaseFacts B newId initId bmB) (hB : bm.contains (.type B) = true) {e t0 : Addr} {rest : List Value} {Q : Value → Shared → Prop}
    (hC : h.get? C = some (excClassObj nm q C N bs bm hdct sn sub ab col dd k0 k1 k2 k3 k5 newId)) (he : h.get? e = some (excOf C t0 none)) (hrest : rest.length ≤ sizeLine)
    (hq : ∀ h', h'.get? e = some (excOf C h.objs.size none) → (∀ b o, b ≠ e → h.get? b = some o → h'.get? b = some o) → Q .none ⟨h', g, d, t, os⟩) :
    wpAny (model prog w) A (call (.builtin initId) (.ref e :: rest)) Q E ⟨h, g, d, t, os⟩ := by
  refine wpAny_call (codeAny_call_builtin F.init.plain F.initEntry (check_init_own F hB hC he rfl ?_))
  wp_walk
  refine hq _ ?_ fun b o hb ho => ?_
  · rw [Heap.get?_update_self _ (Heap.get?_push_of_some _ he) rfl]
    rfl
  · rw [Heap.get?_update_other _ _ (Ne.symm hb)]
    exact Heap.get?_push_of_some _ ho
theorem check_sa_own {M : Model} {o : Obj} {nameV : Value} {Q : Unit → Shared → Prop} (SF : StoreFacts B bmB sa owner) (hO : bm.contains (.type owner) = true)
    (hC : h.get? C = some (excClassObj nm q C N bs bm true sn sub ab col dd k0 k1 k2 k3 k5 newId)) (hx : h.get? x = some o) (hc : o.cls = .ref C) (hq : Q () ⟨h, g, d, t, os⟩) :
    wpAny M A (checkBuiltinCall sa ⟨[.ref x, nameV, v], []⟩) Q E ⟨h, g, d, t, os⟩ := by
  have hcB : (Value.ref C :: bm).contains (.type owner) = true := by rw [List.contains_cons, hO, Bool.or_true]
  have ha := SF.args (.ref x) nameV v
  simp only [checkBuiltinCall, SF.kind, SF.split]
  refine wpAny_bind ?_
  · unfold isInstance
    repeat (first | (with_reducible refine wpAny_loadPart_at hx ?_; rw [hc]) | (with_reducible refine wpAny_isSubtype_exc hC ?_; rw [hcB]) | wp_step)
    cases hsig : Manifest.signature? sa with
    | none => exact wpAny_pure hq
    | some sig =>
      simp only [argsOk, hsig] at ha
      have h2 : Bind.checkArgs sa sig ⟨[.ref x, nameV, v], []⟩ = pure () := ha
      show wpAny M A (Bind.checkArgs sa sig ⟨[.ref x, nameV, v], []⟩) Q E _
      rw [h2]; exact wpAny_pure hq
/-- an exception of a class of the program's own, its fields under way -/
def ExcAt (h : Heap) (x C t : Addr) (mA : Str → Option Value) : Prop :=
  ∃ dx, h.get? x = some (excOf C t dx) ∧ ((dx = none ∧ ∀ n, mA n = none) ∨ ∃ d, dx = some d ∧ d ≠ x ∧ h.Ns1 d mA)
theorem store_own {tk : Tok} {Q : Fin → Shared → Prop} {ns : List Str} {C2 t0 : Addr} (SF : StoreFacts B bmB sa owner)
    (hC : h.get? C = some (excClassObj nm q C N bs (.ref C2 :: bmB) true sn sub ab col dd k0 k1 k2 k3 k5 newId)) (hna : Looks (model prog w) h (typeLookup (.ref C) name) none)
    (I : ExcAt h x C t0 mA)
    (hq : ∀ h' tk' dx', (∀ b o, b ≠ x → (∀ dx, h.get? x = some (excOf C t0 (some dx)) → b ≠ dx) → h.get? b = some o → h'.get? b = some o) →
      (h.get? x = some (excOf C t0 (some dx')) ∨ h.get? dx' = none) → h'.get? x = some (excOf C t0 (some dx')) → dx' ≠ x → h'.Ns1 dx' (fun y => if y = name then some v else mA y) → Q (.done (.ret .none)) ⟨h', g, d, tk', os⟩) (hw : Within mA ns) (hsz : ns.length ≤ 100) :
    wpAny (model prog w) A (Builtin.«object.__setattr__» ⟨[.ref x, .str name tk, v], []⟩) Q E ⟨h, g, d, t, os⟩ := by
  obtain ⟨odx, hx, hd⟩ := I
  have hpass := SF.passes (.ref x)
  unfold Builtin.«object.__setattr__»
  repeat (first | rw [refuse_eq] | (rw [refuseLoop_ref, refuseLoop_ref, hpass]) | (with_reducible refine wpAny_loadPart_at hx ?_) | with_reducible refine wpAny_mroOf_exc hC ?_ | (with_reducible refine hna.at ?_) | wp_step)
  rcases hd with ⟨rfl, hmA⟩ | ⟨dx, rfl, hne, hns⟩
  · have hx₁ : (h.push { cls := .type "dict", data := .dict #[] }).get? x = some (excOf C t0 none) := Heap.get?_push_of_some _ hx
    have hxs : x ≠ h.objs.size := Nat.ne_of_lt (Heap.lt_size hx)
    rw [if_neg (by simp [typeHasDict])]
    refine wpAny_bind (wpAny_alloc' ?_)
    refine wpAny_bind (wpAny_update' hx₁ ?_)
    refine wpAny_pure ?_
    have hgd : ((h.push { cls := .type "dict", data := .dict #[] }).update x fun o => { cls := o.cls, dict := some h.objs.size, data := o.data, slots := o.slots }).get? h.objs.size
        = some { cls := .type "dict", data := .dict #[] } :=
      (Heap.get?_update_ne _ _ _ _ hxs.symm).trans (Heap.get?_push_at rfl rfl)
    have hnd : ((h.push { cls := .type "dict", data := .dict #[] }).update x fun o => { cls := o.cls, dict := some h.objs.size, data := o.data, slots := o.slots }).Ns h.objs.size (fun _ => none) :=
      ⟨_, #[], _, hgd, rfl, fun e he => absurd he (by simp), fun _ => rfl⟩
    show wpAny _ _ (Builtin.ObjectAttr.storeInDict h.objs.size (.str name tk) name v) _ _ _
    unfold Builtin.ObjectAttr.storeInDict Builtin.ObjectAttr.newKeyGuard
    refine wpAny_bind (wpAny_pure (wpAny_bind (wpAny_nsSet1 (Heap.Ns1.of_empty hnd) fun h' hn' hs => ?_)))
    obtain ⟨oD, esD, epD, hoD, hdD, hcD⟩ := hn'.count (Within.cons name v Within.nil)
    refine wpAny_bind (wpAny_lookBehind hoD (by rw [hdD]; exact pastItsLine_dict (Nat.le_trans hcD (by rw [List.length_cons, List.length_nil, sizeLine_eq]; omega))) ?_)
    wp_walk
    have hx' : h'.get? x = some (excOf C t0 (some h.objs.size)) := (hs.2 x hxs).trans (Heap.get?_update_self _ hx₁ rfl)
    refine hq h' _ h.objs.size (fun b ob hbx _ hb => ?_) (.inr (Heap.get?_none_of_le (Nat.le_refl _))) hx' hxs.symm ?_
    · exact (hs.2 b (Nat.ne_of_lt (Heap.lt_size hb))).trans ((Heap.get?_update_ne _ _ _ _ hbx).trans (Heap.get?_push_of_some _ hb))
    · obtain ⟨o', es, ep, e1, e2, e3, eu, e4⟩ := hn'
      exact ⟨o', es, ep, e1, e2, e3, eu, fun y => by rw [e4 y]; by_cases hy : y = name <;> simp [hy, hmA]⟩
  · refine wpAny_pure ?_
    show wpAny _ _ (Builtin.ObjectAttr.storeInDict dx (.str name tk) name v) _ _ _
    unfold Builtin.ObjectAttr.storeInDict Builtin.ObjectAttr.newKeyGuard
    refine wpAny_bind (wpAny_pure (wpAny_bind (wpAny_nsSet1 hns fun h' hn' hs => ?_)))
    obtain ⟨oD, esD, epD, hoD, hdD, hcD⟩ := hn'.count (Within.cons name v hw)
    refine wpAny_bind (wpAny_lookBehind hoD (by rw [hdD]; exact pastItsLine_dict (Nat.le_trans hcD (by rw [List.length_cons, sizeLine_eq]; omega))) ?_)
    wp_walk
    exact hq h' _ dx (fun b ob _ hbd hb => (hs.2 b (hbd dx hx)).trans hb) (.inl hx) ((hs.2 x hne.symm).trans hx) hne hn'
theorem store_attr_own {Q : Unit → Shared → Prop} {ns : List Str} {C2 t0 : Addr} (SF : StoreFacts B bmB sa owner) (hO : (Value.ref C2 :: bmB).contains (.type owner) = true)
    (hC : h.get? C = some (excClassObj nm q C N bs (.ref C2 :: bmB) true sn sub ab col dd k0 k1 k2 k3 k5 newId)) (hna : Looks (model prog w) h (typeLookup (.ref C) name) none) (hls : Looks (model prog w) h (typeLookup (.ref C) "__setattr__") (some (.builtin sa)))
    (I : ExcAt h x C t0 mA)
    (hq : ∀ h' tk' dx', (∀ b o, b ≠ x → (∀ dx, h.get? x = some (excOf C t0 (some dx)) → b ≠ dx) → h.get? b = some o → h'.get? b = some o) →
      (h.get? x = some (excOf C t0 (some dx')) ∨ h.get? dx' = none) → h'.get? x = some (excOf C t0 (some dx')) → dx' ≠ x → h'.Ns1 dx' (fun y => if y = name then some v else mA y) → Q () ⟨h', g, d, tk', os⟩) (hw : Within mA ns) (hsz : ns.length ≤ 100) :
    wpAny (model prog w) A (setAttr (.ref x) name v) Q E ⟨h, g, d, t, os⟩ := by
  have I' := I
  obtain ⟨odx, hx, _⟩ := I'
  have f3 := SF.slot.bind (.ref x)
  unfold setAttr callSpecial? specialOf
  repeat (any_goals (first | assumption | (with_reducible refine wpAny_loadPart_at hx ?_) | (with_reducible refine hls.at ?_) | wp_step))
  refine codeAny_call_builtin SF.slot.plain SF.entry (check_sa_own SF hO hC hx rfl (store_own SF hC hna I (fun h' tk' dx' a1 a2 a3 a4 a5 => ?_) hw hsz))
  repeat (any_goals (first | assumption | wp_step))
  exact hq h' tk' dx' a1 a2 a3 a4 a5
end
end
section
open PySem PySem.W PyProof.Rows PySem.Calls PySem.Spec PyProof.V
set_option maxRecDepth 100000
theorem clsTE (P : Params) : ∃ nm q N bs sn sub ab col dd k0 k1 k2 k3 k5, (Mine.kf.heap_1 P).lookup 45 = some (excClassObj nm q 45 N bs [.ref 32, .type "Exception", .type "BaseException", .type "object"] true sn sub ab col dd k0 k1 k2 k3 k5 "Exception.__new__") :=
  ⟨_, _, _, _, _, _, _, _, _, _, _, _, _, _, by with_unfolding_all rfl⟩
theorem setTE (P : Params) : findIn (Mine.kf.heap_1 P) (.ref 45) (Str.ofString "__setattr__") = some (some (.builtin "object.__setattr__")) := by with_unfolding_all rfl
theorem noMsg (P : Params) : findIn (Mine.kf.heap_1 P) (.ref 45) (Str.ofString "message") = some none := by with_unfolding_all rfl
theorem noSpot (P : Params) : findIn (Mine.kf.heap_1 P) (.ref 45) (Str.ofString "spot") = some none := by with_unfolding_all rfl
theorem initCls (P : Params) : findCls (Mine.kf.heap_1 P) (.type "Exception") (.type "type") (Str.ofString "__init__") = some (.val (.builtin "Exception.__init__")) := by with_unfolding_all rfl
def ExcI (g : Heap) (L : Addr) (h : Heap) (e : Addr) (mA : Str → Option Value) : Prop :=
  ∃ t, ExcAt h e 45 t mA ∧ g.get? e = none ∧ e ≠ L ∧ ∀ dx, h.get? e = some (excOf 45 t (some dx)) → g.get? dx = none ∧ dx ≠ L
theorem excI_inj {t dx dx' : Addr} (e : some (excOf 45 t (some dx)) = some (excOf 45 t (some dx'))) : dx = dx' := Option.some.inj (congrArg Obj.dict (Option.some.inj e))
section
variable {w : World} {A : Around} {E : Value → Shared → Prop} {s : Shared} {g : Heap} {L e t0 : Addr} {m mA : Str → Option Value} {name : Str} {v : Value} {ns : List Str} {news : List (Addr × Obj)}
theorem fr_but {h h' : Heap} (F : Fr g L h m) (ns : h'.Ns L m) (k : ∀ b o, g.get? b = some o → h'.get? b = some o) : Fr g L h' m := ⟨ns, k, F.above⟩
theorem set_exc {Q : Unit → Shared → Prop} (F : Fr g L s.heap m) (X : (Mine.kf.heap_1 w.params).In g) (hna : findIn (Mine.kf.heap_1 w.params) (.ref 45) name = some none) (I : ExcI g L s.heap e mA) (hw : Within mA ns) (hsz : ns.length ≤ 100)
    (hq : ∀ h' tk', Fr g L h' m → News g L h' [] → ExcI g L h' e (fun y => if y = name then some v else mA y) → Q () { s with heap := h', toks := tk' }) :
    wpAny (model PySem.Challenge.rw_nu0375_01.row.prog w) A (setAttr (.ref e) name v) Q E s := by
  obtain ⟨h, gs, d, tk, os⟩ := s
  obtain ⟨nm, q, N, bs, sn, sub, ab, col, dd, k0, k1, k2, k3, k5, hK⟩ := clsTE w.params
  have Xs := X.keeps F.keep
  obtain ⟨t, I, ge, eL, gd⟩ := I
  obtain ⟨oL, es, ep, hL, hLd, hLk, hLf⟩ := F.ns
  refine store_attr_own PySem.F.store_Exception (by decide +kernel) (Xs _ _ hK) (looks_findIn Xs hna) (looks_findIn Xs (setTE _)) I (fun h' tk' dx' a1 a2 a3 a4 a5 => ?_) hw hsz
  refine hq h' tk' (fr_but F ⟨oL, es, ep, a1 L oL (Ne.symm eL) (fun dx hx => Ne.symm (gd dx hx).2) hL, hLd, hLk, hLf⟩ fun b o hb => ?_) (fun _ hp => nomatch hp) ⟨t, ⟨some dx', a3, .inr ⟨dx', rfl, a4, a5⟩⟩, ge, eL, fun dx hx => ?_⟩
  · refine a1 b o (fun z => by rw [z, ge] at hb; cases hb) (fun dx hx z => ?_) (F.keep b o hb)
    rw [z, (gd dx hx).1] at hb; cases hb
  · obtain rfl : dx = dx' := (excI_inj (a3.symm.trans hx)).symm
    rcases a2 with a2 | a2
    · exact gd dx a2
    · refine ⟨?_, fun z => ?_⟩
      · cases q : g.get? dx with
        | none => rfl
        | some o => have := F.keep _ _ q; dsimp only at this; rw [a2] at this; cases this
      · dsimp only at hL; rw [← z, a2] at hL; cases hL
theorem init_exc {rest : List Value} {Q : Value → Shared → Prop} (F : Fr g L s.heap m) (X : (Mine.kf.heap_1 w.params).In g) (N : News g L s.heap ((e, excOf 45 t0 none) :: news)) (hrest : rest.length ≤ sizeLine)
    (hq : ∀ h', Fr g L h' m → News g L h' [] → ExcI g L h' e (fun _ => none) → Q .none { s with heap := h' }) :
    wpAny (model PySem.Challenge.rw_nu0375_01.row.prog w) A (call (.builtin "Exception.__init__") (.ref e :: rest)) Q E s := by
  obtain ⟨h, gs, d, tk, os⟩ := s
  obtain ⟨nm, q, Nn, bs, sn, sub, ab, col, dd, k0, k1, k2, k3, k5, hK⟩ := clsTE w.params
  have Xs := X.keeps F.keep
  obtain ⟨he, eL, ge⟩ := N _ (.head _)
  obtain ⟨oL, es, ep, hL, hLd, hLk, hLf⟩ := F.ns
  refine exc_init PySem.F.excBase_Exception (by decide +kernel) (Xs _ _ hK) he hrest fun h' a1 a2 => ?_
  refine hq h' (fr_but F ⟨oL, es, ep, a2 L oL (Ne.symm eL) hL, hLd, hLk, hLf⟩ fun b o hb => a2 b o (fun z => by rw [z, ge] at hb; cases hb) (F.keep b o hb)) (fun _ hp => nomatch hp) ⟨_, ⟨none, a1, .inl ⟨rfl, fun _ => rfl⟩⟩, ge, eL, fun dx hx => ?_⟩
  have := congrArg Obj.dict (Option.some.inj (a1.symm.trans hx))
  cases this
theorem exc_end {h' : Heap} {Q : Value → Shared → Prop} {tk' : Nat} {v2 : Value} {name2 : Str} (hret : ∀ h' tk' e dx t', (∀ b o, g.get? b = some o → h'.get? b = some o) → g.get? e = none → h'.get? e = some (excOf 45 t' (some dx)) → Q (.ref e) { s with heap := h', toks := tk' })
    (F : Fr g L h' m) (I : ExcI g L h' e (fun y => if y = name2 then some v2 else mA y)) : Q (.ref e) { s with heap := h', toks := tk' } := by
  obtain ⟨t, ⟨dx, hx, hd⟩, ge, eL, gd⟩ := I
  rcases hd with ⟨rfl, hn⟩ | ⟨d, rfl, _, _⟩
  · have := hn name2; simp at this
  · exact hret h' tk' e d t F.keep ge hx
theorem getm_exc {pl : Sem Bool} {Q : Value × List Value → Shared → Prop} (F : Fr g L s.heap m) (X : (Mine.kf.heap_1 w.params).In g) (h : Q (.builtin "Exception.__init__", []) { s with toks := s.toks + 1 }) :
    wpAny (model PySem.Challenge.rw_nu0375_01.row.prog w) A (getMethod (.type "Exception") (Str.ofString "__init__") pl) Q E s :=
  method_type F X (by first | rfl | kernel_rfl) (by decide +kernel) (initCls _) (by decide +kernel) h
end
end
section
open PySem PySem.W PyProof.Rows PySem.Calls PySem.Spec PyProof.V
theorem rowsB16a : True := by
  k_with_none
  k_with "my sides" => (rotate_left 7; (focus k_asm); (focus k_asm); (focus k_asm); (focus k_asm); (focus k_asm); (focus (first | exact rfl | assumption)); (focus (first | exact room1 (by with_reducible assumption) (by decide) | ((try dsimp only [ktrTop]); omega) | ktr_room)); (focus (first | exact unit1 (by with_reducible assumption) (by decide) | ((try dsimp only [ktrTop]); omega) | ktr_units)))
  k_with "my value" => (intro t9 h9 tk9 F9 N9; (try dsimp only); (try k_sweep); (try k_fold))
  k_with "my pair" => (intro D9 t9 u9 h9 tk9 F9 N9 l9; (try dsimp only at N9); (try k_lt l9); (try dsimp only); (try k_sweep); (try k_fold))
  k_with "my pair2" => (intro D9 t9 u9 h9 tk9 F9 N9 l9; (try k_lt l9); (try dsimp only); (try k_sweep); (try k_fold))
  k_with "getMethod type:Exception" => (k_here; refine' getm_exc ?F ?X ?_; (case F => k_asm); (case X => k_asm))
  k_with "call builtin:Exception.__init__" => (k_here; k_dflt (refine' init_exc ?F ?X ?N ?z ?_; (case F => k_asm); (case X => k_asm); (case N => k_asm); (case z => (show 1 ≤ sizeLine; decide))); intro h9 F9 N9 I9; (try dsimp only))
  k_with "setAttr ref" => (k_here; k_dflt (refine' set_exc ?F ?X ?n ?I ?w ?z ?_; (case F => k_asm); (case X => k_asm); (case I => assumption); (case n => first | exact noMsg _ | exact noSpot _); (case w => first | exact Within.nil | exact Within.cons _ _ Within.nil); (case z => decide)); intro h9 tk9 F9 N9 I9; (try dsimp only))
  trivial
set_option maxRecDepth 100000 in
set_option maxHeartbeats 40000000 in
theorem c_faultH {w : World} {mean : ExcName → Option Value} {mg mb : Str → Option Value} {e1 e2 e3 : Env} {cn : Str} {cs : Scope} {L a : Addr} {ccd : Value} {base h₀ : Heap} {s : Shared} {m : Str → Option Value} {t : Tok} {msg : Str} {Q E : Value → Shared → Prop}
    (B : Below (((callerA.deeper e1).deeper e2).deeper e3) base [e3, e2, e1] h₀) (F : Fr h₀ L s.heap m) (X : (Mine.kf.heap_1 w.params).In h₀) (T : Top Mine.vw (looseW Mine.vw [Str.ofString "LendError", Str.ofString "BITS"]) mean mg mb h₀) (hk : cs.kind = .function)
    (hret : ∀ h' tk' e dx t', (∀ b o, s.heap.get? b = some o → h'.get? b = some o) → s.heap.get? e = none → h'.get? e = some (excOf 45 t' (some dx)) → Q (.ref e) { s with heap := h', toks := tk' }) :
    wpAny (model PySem.Challenge.rw_nu0375_01.row.prog w) ((((callerA.deeper e1).deeper e2).deeper e3).deeper (envOf cn cs L a ccd)) (call (.ref 45) [.str msg t]) Q E s := by
  have Xs := X.keeps F.keep
  have Ts := T.keeps F.keep
  have Bs := B.push (name := cn) (a := a) (cd := ccd) F hk
  clear B X T F
  obtain ⟨h, g, d, tk, os⟩ := s
  dsimp only at Xs Ts Bs hret
  obtain ⟨nm, q, N, bs, sn, sub, ab, col, dd, k0, k1, k2, k3, k5, hK⟩ := clsTE w.params
  refine call_own PySem.F.excBase_Exception (by decide +kernel) (by decide +kernel) (by decide +kernel) (Xs _ _ hK) (looks_findIn Xs (by with_unfolding_all rfl)) (Xs 29 _ (by with_unfolding_all rfl)) rfl (by show 1 ≤ sizeLine; decide) ?_
  have kp : ∀ b o, h.get? b = some o → ((h.push (tupOf [.str msg t])).push (excOf 45 h.objs.size none)).get? b = some o := fun b o e => Heap.get?_push_of_some _ (Heap.get?_push_of_some _ e)
  have hget : ((h.push (tupOf [.str msg t])).push (excOf 45 h.objs.size none)).get? (h.objs.size + 1) = some (excOf 45 h.objs.size none) := by heap_get
  have hgt : ((h.push (tupOf [.str msg t])).push (excOf 45 h.objs.size none)).get? h.objs.size = some (tupOf [.str msg t]) := by heap_get
  have hne : h.get? (h.objs.size + 1) = none := Heap.get?_none_of_le (by omega)
  have hnt : h.get? h.objs.size = none := Heap.get?_none_of_le (by omega)
  have hz : h.objs.size ≤ ((h.push (tupOf [.str msg t])).push (excOf 45 h.objs.size none)).objs.size := by simp only [Heap.size_push]; omega
  generalize ((h.push (tupOf [.str msg t])).push (excOf 45 h.objs.size none)) = hh at kp hget hgt hz ⊢
  generalize h.objs.size + 1 = e0 at hget hne ⊢
  generalize h.objs.size = t0 at hget hgt hnt ⊢
  refine wpAny_call ?_
  k_dflt (refine' code_base (news := [(e0, excOf 45 t0 none), (t0, tupOf [.str msg t])]) ?g ?z ?N ?X ?T ?ho ?hcd ?hroom ?hbind ?hloc ?_ ?c2 ?c3 ?c4 ?c5; (case g => exact kp); (case z => exact hz); (case X => k_asm); (case T => k_asm); (case ho => k_is); (case hcd => k_is); (case hroom => k_room); (case hbind => first | exact BindsTo.of_eq rfl | exact binds_K (Xs.keeps kp) rfl (by k_is) rfl rfl rfl); (case hloc => exact locs rfl); (case c2 => exact rfl); (case c3 => exact rfl); (case c4 => exact rfl); (case c5 => decide))
  case N =>
    intro p hp
    rcases List.mem_cons.mp hp with rfl | hp
    · exact ⟨hget, hne⟩
    · rcases List.mem_cons.mp hp with rfl | hp
      · exact ⟨hgt, hnt⟩
      · cases hp
  intro L' h1 F' N'
  (try dsimp only); (try k_fold)
  repeat' (first | (k_unfold; (try dsimp only)) | (k_end; (fail_if_success (with_reducible show Q _ _)); wrow_close) | (k_end; (with_reducible show Q _ _); fail "an end") | (walk1; (try dsimp only)) | (dsimp only; walk1) | (leave1; try dsimp only) | fail "no step")
  all_goals exact exc_end (s := ⟨h, g, d, tk, os⟩) hret (by k_asm) (by assumption)
theorem c_fault {w : World} {mean : ExcName → Option Value} {mg mb : Str → Option Value} {e1 e2 e3 : Env} {cn : Str} {cs : Scope} {L a : Addr} {ccd : Value} {base h₀ : Heap} {s : Shared} {m : Str → Option Value} {t : Tok} {msg : Str} {E : Value → Shared → Prop}
    (B : Below (((callerA.deeper e1).deeper e2).deeper e3) base [e3, e2, e1] h₀) (F : Fr h₀ L s.heap m) (X : (Mine.kf.heap_1 w.params).In h₀) (T : Top Mine.vw (looseW Mine.vw [Str.ofString "LendError", Str.ofString "BITS"]) mean mg mb h₀) (hk : cs.kind = .function)
    (hE : ∀ h' tk' e, NewO s.heap h' e (.ref 45) → E (.ref e) { s with heap := h', toks := tk' }) :
    wpAny (model PySem.Challenge.rw_nu0375_01.row.prog w) ((((callerA.deeper e1).deeper e2).deeper e3).deeper (envOf cn cs L a ccd)) (call (.ref 45) [.str msg t]) (RaisableO w.params E) E s :=
  c_faultH B F X T hk fun h' tk' e dx t' kp hn he => ⟨X.keeps fun b o q => kp b o (F.keep b o q), e, t', dx, #[], rfl, he, hE h' tk' e ⟨kp, hn, dx, #[], t', he⟩⟩
end
section
open PySem PySem.W PyProof.Rows PySem.Calls PySem.Spec PyProof.V
section
variable {prog : Program} {w : World} {A A₀ : Around} {s : Shared} {K : Frag} {L : Addr} {h₀ base : Heap} {m mg mb : Str → Option Value} {news : List (Addr × Obj)} {p : Program} {loose : List Str} {mean : ExcName → Option Value} {env : Env} {outer : List Env}
  {R : Result → Shared → Prop} {name qual : Str} {params : Arguments} {body : List Stmt} {scope : Scope} {dV kV doc pm cdv ct oc : Value} {an od : Option Addr} {osl : Array (Option Value)} {f : Addr} {args : Args} {binds : List (Str × Value)}
/-- a call, entered; what it leaves is asked of nothing -/
theorem code_open (B : Below A₀ base outer h₀) (F : Fr h₀ L s.heap m) (X₀ : K.In h₀) (N : News h₀ L s.heap news) (T : Top p loose mean mg mb h₀) (hA : A.frames = some (env :: outer)) (hf : env.frame = some L) (hke : env.scope.kind = .function)
    (ho : K.lookup f = some ⟨oc, od, .func (fnOf name qual params body scope dV kV doc pm an cdv ct), osl⟩) (hcd : codeIn K cdv qual = true) (hroom : A.depth < recursionLimit)
    (hbind : BindsTo s (fnOf name qual params body scope dV kV doc pm an cdv ct) args binds) (hloc : ∀ y ∈ binds, scope.names.lookup y.1 = some .local)
    (h : ∀ g L' h₁, Fr h₀ L g m → Fr g L' h₁ (fun y => binds.reverse.lookup y) → News g L' h₁ news → Below A base (env :: outer) g → K.In g → Top p loose mean mg mb g →
      wpAny (model prog w) (A.deeper (envOf qual scope L' f cdv)) (execs body (envOf qual scope L' f cdv))
        (fun fl s' => R (.ok (.ret (match fl with | .ret v => v | _ => .none))) s')
        (fun e s' => wpAny (model prog w) (A.deeper (envOf qual scope L' f cdv)) (leaving (envOf qual scope L' f cdv) e) (fun _ s'' => R (.error e) s'') (fun e' s'' => R (.error e') s'') s')
        { s with heap := h₁, toks := s.toks + binds.length })
    (hco : scope.isCoroutine = false) (hgen : scope.isGenerator = false) (hk : scope.kind = .function)
    (hcell : ∀ x ∈ scope.names, x.2 ≠ .cell) : codeAny (model prog w) A (.call (.ref f) args) R s := by
  obtain ⟨FG, BG, st, _⟩ := groundX (R := R) B F N hA hf hke
  refine codeAny_call_def (fd := fnOf name qual params body scope dV kV doc pm an cdv ct) (body := body) (binds := binds) hroom ((X₀.keeps F.keep) _ _ ho) rfl (T.nolimit.keeps F.keep) (codeRec_of (X₀.keeps F.keep) hcd) rfl hbind hcell hloc (fun h₁ hns hk₁ => ?_) hco hgen hk
  exact h _ s.heap.objs.size h₁ FG ⟨hns, fun b o e => hk₁ b o (of_hideAll _ e), Nat.le_of_eq (hideAll_size _ _)⟩
    (fun p hp => ⟨hk₁ _ _ (N p hp).1, Nat.ne_of_lt (Heap.lt_size (N p hp).1), hideAll_none _ (List.mem_map_of_mem hp)⟩) BG (X₀.keeps st) (T.keeps st)
end
section
variable {prog : Program} {w : World} {A₀ : Around} {E : Value → Shared → Prop} {s' : Shared} {h₀ h : Heap} {outer : List Env} {L a e : Addr} {m : Str → Option Value} {name : Str} {scope : Scope} {cd : Value}
  {b₀ : Stmt} {suite : List Stmt} {pos np : Pos} {rest : List ExceptHandler} {Q : Flow → Shared → Prop} {news : List (Addr × Obj)} {KF : Frag} {C : Addr}
  {p : Program} {loose : List Str} {mg mb : Str → Option Value} {x : Str}
  {nm q : Str} {N : Addr} {bs bm : List Value} {hdct : Bool} {sn : List Str} {sub : List Value} {ab : Bool} {col : Option Bool} {dd : Option Addr} {k0 k1 k2 k3 k5 : Option Value} {newId : String}
theorem caught_up (hst : A₀.frames = some outer) (F : Fr h₀ L h m) (hsm : h.UpToSlots s'.heap) (R : RaisedN h₀ (envOf name scope L a cd :: outer) e (.ref C) news s'.heap)
    (X : KF.In h₀) (T : TopRead p loose mg mb h₀) (ex : nsIn KF mainGlobals x = some (some (.ref C)))
    (hC₀ : h₀.get? C = some (excClassObj nm q C N bs bm hdct sn sub ab col dd k0 k1 k2 k3 k5 newId)) (hbase : bm.contains (.type "BaseException") = true)
    (k : ∀ h', Fr h₀ L h' m → News h₀ L h' news → h.UpToSlots h' →
      wpAny (model prog w) ((A₀.deeper (envOf name scope L a cd)).mark (some (.ref e))) (execs (b₀ :: suite) (envOf name scope L a cd)) Q E { s' with heap := h' })
    (hk : scope.kind = .function) (hx : (envOf name scope L a cd).kindOf x = some .globalImplicit) (hd : (x == ("__debug__" : Str)) = false)
    (hE : PassesOwnAt (model prog w) ((A₀.deeper (envOf name scope L a cd)).mark (some (.ref e))) (A₀.deeper (envOf name scope L a cd)) (envOf name scope L a cd) E) :
    wpAny (model prog w) (A₀.deeper (envOf name scope L a cd)) (noteFrame (.ref e) (envOf name scope L a cd))
      (fun _ s₂ => wpAny (model prog w) (A₀.deeper (envOf name scope L a cd)) (setFlight (.ref e) none) (fun _ s₃ =>
        wpAny (model prog w) (A₀.deeper (envOf name scope L a cd)) (handleBy (.ref e) (envOf name scope L a cd) (.ExceptHandler (some (.Name x np)) none (b₀ :: suite) pos :: rest)) Q E s₃) E s₂) E s' := by
  obtain ⟨B, a0, hB, hl, hfl⟩ := R
  have hL : B.get? L = none := by
    obtain ⟨_, ⟨L', _, hf, hn', _⟩, _⟩ := hfl.2.2.1
    obtain rfl : L = L' := Option.some.inj hf
    exact hn'
  refine wpAny_looks_onW (Around.frames_deeper hst) rfl hfl fun h₄ hheld₄ hsm₄ => ?_
  refine wpAny_landsW hheld₄ fun h₅ hheld hsm₅' => ?_
  have hsm₅ := hsm₄.trans hsm₅'
  have hheld' := flyingW_base hB hheld
  have F₅ := F.of_stays hheld'.1 (hsm.trans hsm₅)
  obtain ⟨ob, hob, hobc⟩ := hheld'.there
  refine wpAny_handleBy_cons (codeAny_handlers_test (name_K F₅ X T ex ?_ hk hx hd)) (by intro q; cases q)
  refine wpAny_excMatches_sub_self (F₅.keep _ _ hC₀) hob hobc hbase (codeAny_handlers_suite ?_)
  refine lands_againW hheld fun h₆ hfl₆ hsm₆ => ?_
  have F₆ := F.of_stays (flyingW_base hB hfl₆).1 ((hsm.trans hsm₅).trans hsm₆)
  exact wpAny_passesOwnAt hE (k h₆ F₆ (fun q hq => ⟨hfl₆.1 _ _ (hl q hq).1, (fun z => by have := (hl q hq).1; rw [z, hL] at this; cases this), (hl q hq).2⟩) ((hsm.trans hsm₅).trans hsm₆))
end
section
variable {w : World} {E : Value → Shared → Prop} {s' : Shared} {h₀ g g₂ : Heap} {env : Env} {L Ll a e : Addr} {m ml : Str → Option Value} {name : Str} {scope : Scope} {cd : Value}
  {b₀ : Stmt} {suite : List Stmt} {pos np : Pos} {rest : List ExceptHandler} {Q : Flow → Shared → Prop} {news : List (Addr × Obj)} {p : Program} {loose : List Str} {mg mb : Str → Option Value}
theorem caught_ref (FG : Fr h₀ Ll g ml) (F2 : Fr g L g₂ m) (U : g₂.UpToSlots s'.heap) (R : RaisedN h₀ (envOf name scope L a cd :: [env]) e (.ref 45) news s'.heap)
    (X : (Mine.kf.heap_1 w.params).In h₀) (T : TopRead p loose mg mb h₀)
    (hk : scope.kind = .function) (hx : (envOf name scope L a cd).kindOf (Str.ofString "TypeFault") = some .globalImplicit)
    (hE : PassesOwnAt (model PySem.Challenge.rw_nu0375_01.row.prog w) (((callerA.deeper env).deeper (envOf name scope L a cd)).mark (some (.ref e))) ((callerA.deeper env).deeper (envOf name scope L a cd)) (envOf name scope L a cd) E)
    (k : ∀ h', Fr h₀ L h' m → News h₀ L h' news → Fr h₀ Ll h' ml →
      wpAny (model PySem.Challenge.rw_nu0375_01.row.prog w) (((callerA.deeper env).deeper (envOf name scope L a cd)).mark (some (.ref e))) (execs (b₀ :: suite) (envOf name scope L a cd)) Q E { s' with heap := h' }) :
    wpAny (model PySem.Challenge.rw_nu0375_01.row.prog w) ((callerA.deeper env).deeper (envOf name scope L a cd)) (noteFrame (.ref e) (envOf name scope L a cd))
      (fun _ s₂ => wpAny (model PySem.Challenge.rw_nu0375_01.row.prog w) ((callerA.deeper env).deeper (envOf name scope L a cd)) (setFlight (.ref e) none) (fun _ s₃ =>
        wpAny (model PySem.Challenge.rw_nu0375_01.row.prog w) ((callerA.deeper env).deeper (envOf name scope L a cd)) (handleBy (.ref e) (envOf name scope L a cd) (.ExceptHandler (some (.Name (Str.ofString "TypeFault") np)) none (b₀ :: suite) pos :: rest)) Q E s₃) E s₂) E s' := by
  obtain ⟨nm, q, N, bs, hdct, sn, sub, ab, col, dd, k0, k1, k2, k3, k5, newId, hK⟩ := clsTF w.params
  have F : Fr h₀ L g₂ m := ⟨F2.ns, fun b o e => F2.keep b o (FG.keep b o e), Nat.le_trans (Nat.le_of_lt (Nat.lt_of_le_of_lt FG.above FG.ns.lt)) F2.above⟩
  refine caught_up rfl F U R X T (nameTF _) (X _ _ hK) (by rfl) (fun h' F' N' U' => k h' F' N' ⟨U'.ns ?_, F'.keep, FG.above⟩) hk hx (by decide) hE
  obtain ⟨o, es, ep, e', r⟩ := FG.ns
  exact ⟨o, es, ep, F2.keep _ _ e', r⟩
def RetRef (h₀ : Heap) (L : Addr) (m : Str → Option Value) (news : List (Addr × Obj)) (s : Shared) (Q : Value → Shared → Prop) : Prop :=
  ∀ (h' : Heap) (L1 : Addr) (newsR : List (Addr × Obj)) (tk' : Nat), Fr h₀ L h' m → News h₀ L1 h' newsR → (∀ p ∈ news, p ∈ newsR) → Q (.bool true) { s with heap := h', toks := tk' }
theorem ret_ref {h : Heap} {L : Addr} {m : Str → Option Value} {news : List (Addr × Obj)} {s : Shared} {Q : Value → Shared → Prop}
    (hret : ∀ (h' : Heap) (tk' : Nat), Fr h₀ L h' m → News h₀ L h' news → Q (.bool true) { s with heap := h', toks := tk' }) (N : News h₀ L h news) : RetRef h₀ L m news s Q :=
  fun h' _ _ tk' FL N' hs => hret h' tk' FL fun p hp => ⟨(N' p (hs p hp)).1, (N p hp).2⟩
end
end
section
open PySem PySem.W PyProof.Rows
theorem rowsB15a : True := by
  k_with_none
  k_with "my sides" => (rotate_left 7; (focus k_asm); (focus k_asm); (focus k_asm); (focus k_asm); (focus k_asm); (focus (first | exact rfl | assumption)); (focus (first | exact room1 (by with_reducible assumption) (by decide) | ((try dsimp only [ktrTop]); omega) | ktr_room)); (focus (first | exact unit1 (by with_reducible assumption) (by decide) | ((try dsimp only [ktrTop]); omega) | ktr_units)))
  k_with "my value" => (intro t9 h9 tk9 F9 N9; (try dsimp only); (try k_sweep); (try k_fold))
  k_with "my pair" => (intro D9 t9 u9 h9 tk9 F9 N9 l9; (try dsimp only at N9); (try k_lt l9); (try dsimp only); (try k_sweep); (try k_fold))
  k_with "my pair2" => (intro D9 t9 u9 h9 tk9 F9 N9 l9; (try k_lt l9); (try dsimp only); (try k_sweep); (try k_fold))
  k_with "call ref" => (k_here; (with_reducible show wpAny _ _ (call (Value.ref 111) _ _) _ _ _); k_dflt (refine wpAny_call ?_; refine' code_def ?k1 ?k2 ?k3 ?k4 ?k5 ?kA ?kF ?kK ?k6 ?k7 ?k8 ?k9 ?kB ?_ ?c2 ?c3 ?c4 ?c5; (case kA => exact rfl); (case kF => exact rfl); (case kK => exact rfl); (case k1 => k_asm); (case k2 => k_asm); (case k3 => k_asm); (case k4 => k_asm); (case k5 => k_asm); (case k6 => k_is); (case k7 => k_is); (case k8 => first | exact roomI (by with_reducible assumption) (by decide) | ktr_room); (case k9 => exact BindsTo.of_eq rfl); (case c5 => decide); (case kB => exact locs rfl); (case c2 => exact rfl); (case c3 => exact rfl); (case c4 => exact rfl); k_whole; intro g' L' h' FG' F' N' B' X' T'; (try dsimp only); (try k_lift B'); (try k_fold)))
  k_with "call ref" => (k_here; (with_reducible show wpAny _ _ (call (Value.ref 104) _ _) _ _ _); k_dflt (refine wpAny_call ?_; refine' code_def ?k1 ?k2 ?k3 ?k4 ?k5 ?kA ?kF ?kK ?k6 ?k7 ?k8 ?k9 ?kB ?_ ?c2 ?c3 ?c4 ?c5; (case kA => exact rfl); (case kF => exact rfl); (case kK => exact rfl); (case k1 => k_asm); (case k2 => k_asm); (case k3 => k_asm); (case k4 => k_asm); (case k5 => k_asm); (case k6 => k_is); (case k7 => k_is); (case k8 => first | exact roomI (by with_reducible assumption) (by decide) | ktr_room); (case k9 => exact BindsTo.of_eq rfl); (case c5 => decide); (case kB => exact locs rfl); (case c2 => exact rfl); (case c3 => exact rfl); (case c4 => exact rfl); k_whole; intro g' L' h' FG' F' N' B' X' T'; (try dsimp only); (try k_lift B'); (try k_fold)))
  k_with "exec Raise some none" => (k_here; (with_reducible show wpAny _ _ (exec (Stmt.Raise (some (Expr.Call _ _ [] _)) none _) _) _ _ _); k_dflt (refine raise_TF (by rfl) ?_))
  k_with "call ref" => (k_here; (with_reducible show wpAny _ _ (call (Value.ref 45) _ _) _ _ _); k_dflt (refine' c_fault ?k1 ?k2 ?k3 ?k4 ?k5 ?_; (case k1 => k_asm); (case k2 => k_asm); (case k3 => k_asm); (case k4 => k_asm); (case k5 => rfl)); intro h9 tk9 e9 x9; (try dsimp only at x9))
  k_with "leaving ref" => (k_here; (refine' leave_newO ?k1 ?k0 ?k2 ?k3 ?_; (case k0 => assumption); (case k1 => assumption); (case k2 => assumption); (case k3 => k_asm); k_whole; intro h' R' U'; (try dsimp only at R' U' ⊢)))
  k_with "noteFrame ref" => (k_here; (rename RaisedN _ _ _ _ _ _ => rkX); k_dflt (refine' caught_ref ?G ?F ?U ?R ?X ?T ?k ?x ?E ?_; (case R => exact rkX); (case U => assumption); (case F => assumption); (case G => assumption); (case X => k_asm); (case T => k_asm); (case k => rfl); (case x => rfl); (case E => passes_own); k_whole); intro h' F' N' FL'; (try k_sweep))
  trivial
set_option maxRecDepth 100000 in
set_option maxHeartbeats 40000000 in
theorem c_refused0 {w : World} {mean : ExcName → Option Value} {mg mb : Str → Option Value} {ln : Str} {ls : Scope} {L la : Addr} {lcd : Value} {h₀ : Heap} {s : Shared} {m : Str → Option Value} {news : List (Addr × Obj)} {t : Tok} {Q E : Value → Shared → Prop}
    (F : Fr h₀ L s.heap m) (X : (Mine.kf.heap_1 w.params).In h₀) (N : News h₀ L s.heap news) (T : Top Mine.vw (looseW Mine.vw [Str.ofString "LendError", Str.ofString "BITS"]) mean mg mb h₀) (hk : ls.kind = .function) (hg : s.gens = #[])
    (hret : ∀ (h' : Heap) (tk' : Nat), Fr h₀ L h' m → News h₀ L h' news → Q (.bool true) { s with heap := h', toks := tk' }) :
    wpAny (model PySem.Challenge.rw_nu0375_01.row.prog w) (callerA.deeper (envOf ln ls L la lcd)) (call (.ref 228) [.str (Str.ofString "**") t]) Q E s := by
  have K0 := below_caller h₀
  have hret9 := ret_ref hret N
  refine wpAny_call ?_
  k_dflt (refine' code_open ?k1 ?k2 ?k3 ?k4 ?k5 ?kA ?kF ?kK ?k6 ?k7 ?k8 ?k9 ?kB ?_ ?c2 ?c3 ?c4 ?c5; (case kA => exact rfl); (case kF => exact rfl); (case kK => exact hk); (case k1 => k_asm); (case k2 => k_asm); (case k3 => k_asm); (case k4 => k_asm); (case k5 => k_asm); (case k6 => k_is); (case k7 => k_is); (case k8 => first | ktr_room | decide); (case k9 => exact BindsTo.of_eq rfl); (case c5 => decide); (case kB => exact locs rfl); (case c2 => exact rfl); (case c3 => exact rfl); (case c4 => exact rfl); k_whole; intro g' L' h' FG' F' N' B' X' T'; (try dsimp only); (try k_lift B'); (try k_fold))
  repeat' (first | (k_unfold; (try dsimp only)) | (k_end; (fail_if_success (with_reducible show Q _ _)); wrow_close) | (k_end; (with_reducible show Q _ _); fail "an end") | (walk1; (try dsimp only)) | (dsimp only; walk1) | (leave1; try dsimp only) | fail "no step")
  all_goals exact hret9 _ _ _ _ (by assumption) (by k_asm) (by repeat (first | exact sub0 | refine subS ?_))
set_option maxRecDepth 100000 in
set_option maxHeartbeats 40000000 in
theorem c_refused1 {w : World} {mean : ExcName → Option Value} {mg mb : Str → Option Value} {ln : Str} {ls : Scope} {L la : Addr} {lcd : Value} {h₀ : Heap} {s : Shared} {m : Str → Option Value} {news : List (Addr × Obj)} {t : Tok} {Q E : Value → Shared → Prop}
    (F : Fr h₀ L s.heap m) (X : (Mine.kf.heap_1 w.params).In h₀) (N : News h₀ L s.heap news) (T : Top Mine.vw (looseW Mine.vw [Str.ofString "LendError", Str.ofString "BITS"]) mean mg mb h₀) (hk : ls.kind = .function) (hg : s.gens = #[])
    (hret : ∀ (h' : Heap) (tk' : Nat), Fr h₀ L h' m → News h₀ L h' news → Q (.bool true) { s with heap := h', toks := tk' }) :
    wpAny (model PySem.Challenge.rw_nu0375_01.row.prog w) (callerA.deeper (envOf ln ls L la lcd)) (call (.ref 228) [.str (Str.ofString "&&") t]) Q E s := by
  have K0 := below_caller h₀
  have hret9 := ret_ref hret N
  refine wpAny_call ?_
  k_dflt (refine' code_open ?k1 ?k2 ?k3 ?k4 ?k5 ?kA ?kF ?kK ?k6 ?k7 ?k8 ?k9 ?kB ?_ ?c2 ?c3 ?c4 ?c5; (case kA => exact rfl); (case kF => exact rfl); (case kK => exact hk); (case k1 => k_asm); (case k2 => k_asm); (case k3 => k_asm); (case k4 => k_asm); (case k5 => k_asm); (case k6 => k_is); (case k7 => k_is); (case k8 => first | ktr_room | decide); (case k9 => exact BindsTo.of_eq rfl); (case c5 => decide); (case kB => exact locs rfl); (case c2 => exact rfl); (case c3 => exact rfl); (case c4 => exact rfl); k_whole; intro g' L' h' FG' F' N' B' X' T'; (try dsimp only); (try k_lift B'); (try k_fold))
  repeat' (first | (k_unfold; (try dsimp only)) | (k_end; (fail_if_success (with_reducible show Q _ _)); wrow_close) | (k_end; (with_reducible show Q _ _); fail "an end") | (walk1; (try dsimp only)) | (dsimp only; walk1) | (leave1; try dsimp only) | fail "no step")
  all_goals exact hret9 _ _ _ _ (by assumption) (by k_asm) (by repeat (first | exact sub0 | refine subS ?_))
end
section
open PySem PySem.W PyProof.Rows
theorem rowsB14a : True := by
  k_with_none
  k_with "my sides" => (rotate_left 7; (focus k_asm); (focus k_asm); (focus k_asm); (focus k_asm); (focus k_asm); (focus (first | exact rfl | assumption)); (focus (first | exact room1 (by with_reducible assumption) (by decide) | ((try dsimp only [ktrTop]); omega) | ktr_room)); (focus (first | exact unit1 (by with_reducible assumption) (by decide) | ((try dsimp only [ktrTop]); omega) | ktr_units)))
  k_with "my value" => (intro t9 h9 tk9 F9 N9; (try dsimp only); (try k_sweep); (try k_fold))
  k_with "my pair" => (intro D9 t9 u9 h9 tk9 F9 N9 l9; (try dsimp only at N9); (try k_lt l9); (try dsimp only); (try k_sweep); (try k_fold))
  k_with "my pair2" => (intro D9 t9 u9 h9 tk9 F9 N9 l9; (try k_lt l9); (try dsimp only); (try k_sweep); (try k_fold))
  k_with "binaryOp Add int int" => (k_here; (refine' add_intG  ?_); intro _ _; (try dsimp only))
  k_with "binaryOp Sub int int" => (k_here; (refine' sub_intG  ?_); intro _ _; (try dsimp only))
  k_with "binaryOp Mult int int" => (k_here; (refine' mul_intG ?e0 ?_); (case e0 => with_reducible assumption); intro _ _; (try dsimp only))
  k_with "binaryOp FloorDiv int int" => (k_here; (refine' div_intG ?e0 ?e1 ?_); (case e0 => with_reducible assumption); (case e1 => with_reducible assumption); intro _ _; (try dsimp only))
  k_with "binaryOp Mod int int" => (k_here; (refine' mod_intG ?e0 ?_); (case e0 => with_reducible assumption); intro _ _; (try dsimp only))
  k_with "binaryOp Pow int int" => (k_here; (refine' pow_intG ?e0 ?e1 ?e2 ?_); (case e0 => first | with_reducible assumption | decide); (case e1 => first | with_reducible assumption | decide); (case e2 => decide); intro _ _; (try dsimp only))
  k_with "call ref" => (k_here; (with_reducible show wpAny _ _ (call (Value.ref 111) _ _) _ _ _); k_dflt (refine wpAny_call ?_; refine' code_def ?k1 ?k2 ?k3 ?k4 ?k5 ?kA ?kF ?kK ?k6 ?k7 ?k8 ?k9 ?kB ?_ ?c2 ?c3 ?c4 ?c5; (case kA => exact rfl); (case kF => exact rfl); (case kK => exact rfl); (case k1 => k_asm); (case k2 => k_asm); (case k3 => k_asm); (case k4 => k_asm); (case k5 => k_asm); (case k6 => k_is); (case k7 => k_is); (case k8 => first | exact roomI (by with_reducible assumption) (by decide) | ktr_room); (case k9 => exact BindsTo.of_eq rfl); (case c5 => decide); (case kB => exact locs rfl); (case c2 => exact rfl); (case c3 => exact rfl); (case c4 => exact rfl); k_whole; intro g' L' h' FG' F' N' B' X' T'; (try dsimp only); (try k_lift B'); (try k_fold)))
  k_with "call ref" => (k_here; (with_reducible show wpAny _ _ (call (Value.ref 104) _ _) _ _ _); k_dflt (refine wpAny_call ?_; refine' code_def ?k1 ?k2 ?k3 ?k4 ?k5 ?kA ?kF ?kK ?k6 ?k7 ?k8 ?k9 ?kB ?_ ?c2 ?c3 ?c4 ?c5; (case kA => exact rfl); (case kF => exact rfl); (case kK => exact rfl); (case k1 => k_asm); (case k2 => k_asm); (case k3 => k_asm); (case k4 => k_asm); (case k5 => k_asm); (case k6 => k_is); (case k7 => k_is); (case k8 => first | exact roomI (by with_reducible assumption) (by decide) | ktr_room); (case k9 => exact BindsTo.of_eq rfl); (case c5 => decide); (case kB => exact locs rfl); (case c2 => exact rfl); (case c3 => exact rfl); (case c4 => exact rfl); k_whole; intro g' L' h' FG' F' N' B' X' T'; (try dsimp only); (try k_lift B'); (try k_fold)))
  k_with "call ref" => (k_here; (with_reducible show wpAny _ _ (call (Value.ref 90) _ _) _ _ _); k_dflt (refine wpAny_call ?_; refine' code_def ?k1 ?k2 ?k3 ?k4 ?k5 ?kA ?kF ?kK ?k6 ?k7 ?k8 ?k9 ?kB ?_ ?c2 ?c3 ?c4 ?c5; (case kA => exact rfl); (case kF => exact rfl); (case kK => exact rfl); (case k1 => k_asm); (case k2 => k_asm); (case k3 => k_asm); (case k4 => k_asm); (case k5 => k_asm); (case k6 => k_is); (case k7 => k_is); (case k8 => first | exact roomI (by with_reducible assumption) (by decide) | ktr_room); (case k9 => exact BindsTo.of_eq rfl); (case c5 => decide); (case kB => exact locs rfl); (case c2 => exact rfl); (case c3 => exact rfl); (case c4 => exact rfl); k_whole; intro g' L' h' FG' F' N' B' X' T'; (try dsimp only); (try k_lift B'); (try k_fold)))
  k_with "call ref" => (k_here; (with_reducible show wpAny _ _ (call (Value.ref 83) _ _) _ _ _); k_dflt (refine' Cl.use ?_ ?_ ?_ ?_ ?_ ?_ (c_wrapped _ (by decide) _ _ _ _) ?_ ?_ ?_; walk_at "my sides"); walk_at "my value")
  k_with "call ref" => (k_here; (with_reducible show wpAny _ _ (call (Value.ref 153) _ _) _ _ _); k_dflt (refine' Cl.use ?k1 ?k2 ?k3 ?k4 ?k5 ?kK (c_takeU _ _ _ _ _ _ _ _ ?kx ?ky ?kz ?kp ?kq ?kU) ?kd ?ku ?_); (case k4 => k_asm); (case kU => k_updF); (case kx => assumption); (case ky => assumption); (case kz => assumption); (case kp => first | assumption | decide); (case kq => first | assumption | decide); (case k1 => k_asm); (case k2 => k_asm); (case k3 => k_asm); (case k5 => k_asm); (case kK => first | exact rfl | assumption); (case kd => first | exact room1 (by with_reducible assumption) (by decide) | ((try dsimp only [ktrTop]); omega) | ktr_room); (case ku => first | exact unit1 (by with_reducible assumption) (by decide) | ((try dsimp only [ktrTop]); omega) | ktr_units); intro r9 x9 y9 t9 v9 w9 c9 h9 tk9 r9a r9b x9a y9a y9b F9 N9; (try dsimp only at N9); (try dsimp only); (try k_sweep); (try k_fold))
  k_with "call ref" => (k_here; (with_reducible show wpAny _ _ (call (Value.ref 146) _ _) _ _ _); k_dflt (refine' Cl.use ?k1 ?k2 ?k3 ?k4 ?k5 ?kK (c_pool _ _ _ ?kv ?kn _ ?k0 ?kl _ _) ?kd ?ku ?_); (case kv => assumption); (case kn => omega); (case k0 => omega); (case kl => omega); (case k1 => k_asm); (case k2 => k_asm); (case k3 => k_asm); (case k4 => k_asm); (case k5 => k_asm); (case kK => first | exact rfl | assumption); (case kd => first | exact room1 (by with_reducible assumption) (by decide) | ((try dsimp only [ktrTop]); omega) | ktr_room); (case ku => first | exact unit1 (by with_reducible assumption) (by decide) | ((try dsimp only [ktrTop]); omega) | ktr_units); (refine And.intro (by assumption) ?_); intro D9 x9 y9 t9 v9 c9 h9 tk9 x9a y9a y9b F9 N9 l9; (try k_lt l9); (try dsimp only); (try k_sweep); (try k_fold))
  k_with "call ref" => (k_here; (with_reducible show wpAny _ _ (call (Value.ref 221) _ _) _ _ _); k_dflt (refine' Cl.use ?k1 ?k2 ?k3 ?k4 ?k5 ?kK (c_kind_right _ ?ki _ _ _ _ _ _ _ _ ?kx ?ky ?kz ?ke) ?kd ?ku ?_); (case k4 => k_asm); (case ki => omega); (case kx => assumption); (case ky => assumption); (case kz => assumption); (case ke => k_all); (case k1 => k_asm); (case k2 => k_asm); (case k3 => k_asm); (case k5 => k_asm); (case kK => first | exact rfl | assumption); (case kd => first | exact room1 (by with_reducible assumption) (by decide) | ((try dsimp only [ktrTop]); omega) | ktr_room); (case ku => first | exact unit1 (by with_reducible assumption) (by decide) | ((try dsimp only [ktrTop]); omega) | ktr_units); intro t9 h9 tk9 F9 N9; (try dsimp only); (try k_sweep); (try k_fold))
  k_with "exec For Name Call cons nil" => (k_here; (rename Fr _ _ _ _ => lF'); (with_unfolding_all refine' For_invVF lF' ?k1 ?k2 ?_; (case k1 => exact rfl); (case k2 => exact rfl); k_whole))
  k_with "pyIter ref" => (k_here; k_dflt (refine' each_range (Str.ofString "source") ?k1 ?k2 ?k3 ?k4 ?k5 ?k6 ?_ ?_; (case k1 => exact rfl); (case k2 => assumption); (case k3 => exact rng_lo _); (case k4 => exact rng_hi _); (case k5 => k_asm); (case k6 => k_asm); (all_goals (first | (intro v' t' u' h' tk' hv1' hv2'; (refine fun (tail' : List (Addr × Obj)) => ?_); intro F' N'; (try dsimp only [PyProof.Rows.envOf] at F' N'); (try simp only [List.cons_append, List.nil_append] at N'); (try dsimp only); (try k_sweep); (try k_fold)) | (intro u' h' tk' F' N'; (try dsimp only [PyProof.Rows.envOf] at F' N'); (try dsimp only); (try k_sweep); (try k_fold))))))
  k_with "TurnBack" => (k_dflt (refine TurnBack.intro (by k_asm) (by k_asm) (by repeat (first | exact sub0 | refine subS ?_)) ?_); (intro z9 hz1 hz2; (first | rfl | (simp only [hz1, hz2, if_false]; done) | (dsimp only; simp only [hz1, hz2, if_false]; done))))
  k_with "call ref" => (k_here; (with_reducible show wpAny _ _ (call (Value.ref 111) [_, Value.str (Str.ofString "/") _, _, _] _) _ _ _); k_dflt (refine' Cl.use ?_ ?_ ?_ ?_ ?_ ?_ (c_chk_div 0 (by decide) _ _ (by decide +kernel) (by decide +kernel) (by decide +kernel) (by decide +kernel) (by decide +kernel) _ _ _ _ _) ?_ ?_ ?_; walk_at "my sides"); walk_at "my pair2")
  k_with "call ref" => (k_here; (with_reducible show wpAny _ _ (call (Value.ref 111) [_, Value.str (Str.ofString "%") _, _, _] _) _ _ _); k_dflt (refine' Cl.use ?_ ?_ ?_ ?_ ?_ ?_ (c_chk_mod 0 (by decide) _ _ (by decide +kernel) (by decide +kernel) (by decide +kernel) (by decide +kernel) (by decide +kernel) _ _ _ _ _) ?_ ?_ ?_; walk_at "my sides"); walk_at "my pair2")
  k_with "compareOp NotEq ref ref" => (k_here; k_dflt (refine' ne_pair_ib ?k1 ?k2 ?k3 ?k4 ?e1 ?e2 ?_; (case k1 => k_asm); (case k2 => k_mem); (case k3 => k_mem); (case k4 => ktr_units); (case e1 => decide +kernel); (case e2 => decide +kernel)))
  k_with "call ref" => (k_here; (with_reducible show wpAny _ _ (call (Value.ref 228) [Value.str (Str.ofString "**") _] _) _ _ _); k_dflt (refine' c_refused0 ?k1 ?k2 ?k3 ?k4 ?k5 ?k6 ?_; (case k1 => k_asm); (case k2 => k_asm); (case k3 => k_asm); (case k4 => k_asm); (case k5 => rfl); (case k6 => assumption)); intro h9 tk9 F9 N9; (try dsimp only); (try k_sweep); (try k_fold))
  k_with "call ref" => (k_here; (with_reducible show wpAny _ _ (call (Value.ref 228) [Value.str (Str.ofString "&&") _] _) _ _ _); k_dflt (refine' c_refused1 ?k1 ?k2 ?k3 ?k4 ?k5 ?k6 ?_; (case k1 => k_asm); (case k2 => k_asm); (case k3 => k_asm); (case k4 => k_asm); (case k5 => rfl); (case k6 => assumption)); intro h9 tk9 F9 N9; (try dsimp only); (try k_sweep); (try k_fold))
  trivial
set_option maxRecDepth 100000 in
set_option maxHeartbeats 40000000 in
theorem the_law : PySem.Challenge.rw_nu0375_01.Holds := hd (by
  k_go0
  all_goals (rename Below _ _ _ _ => K0; (dsimp only [PyProof.Rows.Top.heap] at K0))
  all_goals try k_fold
  repeat' (first | (k_unfold; (try dsimp only)) | (k_end; (fail_if_success (with_reducible show Q _ _)); wrow_close) | (k_end; (with_reducible show Q _ _); fail "an end") | (walk1; (try dsimp only)) | (dsimp only; walk1) | (leave1; try dsimp only) | fail "no step"))
end
end Mine
theorem PySem.Challenge.cw_nu0375_01_holds : PySem.Challenge.rw_nu0375_01.Holds := by
  exact Mine.the_law
