import PyProof.Rows.All
import Wide.All
import OpenK.AllK
import Wide.FinOn
import Lean
import PySem.Challenge.RW_xm0723_01
open PySem PySem.W PySem.Calls PyProof.Rows
set_option Elab.async false
set_option maxRecDepth 100000
set_option maxHeartbeats 4000000
set_option linter.unusedVariables false
set_option linter.unusedSimpArgs false
namespace Mine
open PySem.Builtin.Int (intBits)
section
local macro_rules | `(tactic| o_head $_H) => `(tactic| assumption)
set_option maxHeartbeats 0 in
theorem hd (h : PySem.Challenge.rw_xm0723_01.row.Holds) : PySem.Challenge.rw_xm0723_01.row.Holds := by k_head
end
noncomputable def keepL : List Nat := [0, 2, 3, 4, 6, 7, 8, 10, 11, 12, 13, 14, 15, 16, 17, 19, 20, 21, 22, 23, 24, 25, 26, 27, 28, 29, 30, 34, 35, 37, 39, 40, 41, 42, 43, 44, 45, 46]
noncomputable def vw : Program := view PySem.Challenge.pw_xm0723_01 keepL
noncomputable def looseL : List Str := [Str.ofString "fraction", Str.ofString "PI_BOTTOM", Str.ofString "MORE", Str.ofString "MOST_BOTTOM", Str.ofString "turn_of", Str.ofString "tangent_of"]
noncomputable def lvL : List (Str × WData) := [(Str.ofString "PI_BOTTOM", WData.int 100000000000000000000000000000000000000000000000000), (Str.ofString "MORE", WData.int 65536), (Str.ofString "MOST_BOTTOM", WData.int 10000000000000000000000000000000000000000)]
noncomputable def XtF (s : Shared) : Bool := xlAt vw lvL s && recOk (RowW.records PySem.Challenge.rw_xm0723_01.row.toRowW) s
noncomputable def asL : List Nat := [2, 3, 15, 17, 18, 20, 21, 22, 29, 31, 32, 34, 35, 36, 37, 38, 39, 42, 49, 50, 51, 54, 61, 62, 63, 66, 67, 68, 70, 71, 73, 74, 75, 76, 78, 79, 81, 82, 83, 85, 86, 88, 89, 90, 92, 93, 95, 96, 97, 99, 100, 102, 103, 104, 106, 107, 109, 110, 111, 113, 114, 116, 117, 118, 120, 121, 123, 124, 125, 127, 128, 130, 131, 132, 134, 135, 137, 138, 139, 140, 141, 143, 144, 146, 147, 148, 150, 151, 153, 154, 155, 157, 158, 160, 161, 162, 164, 165, 167, 168, 169, 171, 172, 174, 175, 176, 178, 179, 181, 182, 183, 184, 186, 187, 189, 190, 191, 192, 194, 195, 197, 198, 206, 208, 209, 211, 212, 213, 215, 216, 218, 219, 220, 222, 223, 225, 226, 227, 229, 230, 232, 233, 234, 236, 237, 239, 240, 241, 243, 244, 246, 247, 248, 250, 251, 253, 254, 255, 256, 257, 258, 259, 262, 264, 265, 267, 268, 269, 271, 272, 274, 275, 276, 278, 279, 281, 282, 283, 285, 286, 288, 289, 290, 292, 293, 295, 296, 297, 300, 301, 302, 304, 305, 307, 308, 309, 311, 312, 314, 315, 316, 318, 319, 321, 322, 323, 325, 326, 328, 329]
noncomputable def hdL (w : World) := (openEnds treeTable PySem.Challenge.pw_xm0723_01 w 4410).map fun s => (openSeen vw looseL (importedModules PySem.Challenge.pw_xm0723_01.main.body) XtF true s, asL.map s.heap.get?)
noncomputable def hdG := openGood vw looseL
noncomputable def topRunT (tb : String → Option Builtin) (p : Program) (w : World) (n₀ : Nat) (ann : Option Value) : Nat → SharedT → Thread → Option SharedT
  | 0, _, _ => none
  | n + 1, s, t => match through t with
    | true => some s
    | false => match stepOk n₀ ann t with
      | false => none
      | true => match stepT (denote tb) p w s t with
        | some (s', t') => topRunT tb p w n₀ ann n s' t'
        | none => none
theorem topRun_of {tb : String → Option Builtin} {p : Program} {w : World} {n₀ : Nat} {ann : Option Value} : ∀ {n : Nat} {s s' : SharedT} {t : Thread}, topRunT tb p w n₀ ann n s t = some s' → topRun tb p w n₀ ann n s.abs t = some s'.abs
  | 0, _, _, _, h => by cases h
  | n + 1, s, s', t, h => by
    unfold topRunT at h
    unfold topRun
    cases he : through t with
    | true => rw [he] at h; cases h; rfl
    | false =>
      rw [he] at h
      cases hk : stepOk n₀ ann t with
      | false => rw [hk] at h; cases h
      | true =>
        rw [hk] at h
        cases hs : stepT (denote tb) p w s t with
        | none => rw [hs] at h; cases h
        | some r => obtain ⟨s₂, t₂⟩ := r; rw [hs] at h; dsimp only; rw [stepT_spec hs]; exact topRun_of h
noncomputable def bootT (P : Params) : BT :=
  .node (boot_o_0 P)
    (.node (boot_o_1 P) (.node (boot_o_3 P) (.node (boot_o_7 P) .nil .nil) .nil) (.node (boot_o_5 P) (.node (boot_o_9 P) .nil .nil) .nil))
    (.node (boot_o_2 P) (.node (boot_o_4 P) (.node (boot_o_8 P) .nil .nil) .nil) (.node (boot_o_6 P) (.node (boot_o_10 P) .nil .nil) .nil))
theorem bootT_abs (P : Params) : absHeap (bootT P) 11 {} = boot_heap P := rfl
noncomputable def bootS (P : Params) (os : OsState) : SharedT := ⟨bootT P, 11, {}, #[], {}, 181, os⟩
noncomputable def runT (w : World) (os : OsState) := topRunT treeTable PySem.Challenge.pw_xm0723_01 w 11 (some (.ref 6)) 2300 (bootS w.params os) (topStub PySem.Challenge.pw_xm0723_01)
noncomputable def getT (s : SharedT) (a : Addr) : Option Obj := match Nat.blt a s.n with
  | true => match s.tree.get a with
    | some o => alive o
    | none => none
  | false => none
theorem getT_eq {s : SharedT} {a : Addr} (h : (getT s a).isSome = true) : s.abs.heap.get? a = getT s a := by
  unfold getT at h ⊢
  cases e : Nat.blt a s.n with
  | false => rw [e] at h; cases h
  | true =>
    rw [e] at h
    cases g : s.tree.get a with
    | none => rw [g] at h; cases h
    | some o => exact abs_get (Nat.le_of_ble_eq_true e) g
theorem getT_all {s : SharedT} {o : List Obj} : ∀ {l : List Addr} {r : List (Addr × Obj)}, l.map (getT s) = r.map (fun p => some p.2) → l.map s.abs.heap.get? = r.map (fun p => some p.2)
  | [], [], _ => rfl
  | [], _ :: _, h => by cases h
  | _ :: _, [], h => by cases h
  | a :: l, p :: r, h => by
    obtain ⟨e, h⟩ := List.cons.inj h
    rw [List.map_cons, List.map_cons, getT_eq (by rw [e]; rfl), e, getT_all (o := o) h]
noncomputable def bodyOk (P : Params) (h : Heap) (s : Shared) : Bool := staticsOk (importedModules PySem.Challenge.pw_xm0723_01.main.body) (boot_heap P) h && namesBound PySem.Challenge.pw_xm0723_01 h && gensDone s && laidKept (boot_heap P) h
noncomputable def opS (s : SharedT) := openSeen vw looseL (importedModules PySem.Challenge.pw_xm0723_01.main.body) XtF true s.abs
noncomputable def lkA (w : World) (os : OsState) := (runT w os).map fun s => (bodyOk w.params s.abs.heap s.abs, asL.map (getT s))
noncomputable def lkC (w : World) (os : OsState) := (runT w os).map fun s => (opS s).1
noncomputable def lkD (w : World) (os : OsState) := (runT w os).map fun s => (opS s).2
noncomputable def gdC := PyProof.Rows.expectedOf vw
noncomputable def gdD := (bltViewBooted, true, true, pinGoodD (drecsOf vw), plainGoodE vw (looseW vw looseL), plainGoodD vw looseL, wideGood vw, clsGoodW vw looseL)
theorem gd_eq : hdG = (gdC, gdD) := rfl
theorem lkA_self : lkA = lkA := rfl
theorem lkC_self : lkC = lkC := rfl
theorem lkD_self : lkD = lkD := rfl
theorem gdC_self : gdC = gdC := rfl
theorem gdD_self : gdD = gdD := rfl
name_quick lkAQ for Mine.lkA by Mine.lkA_self
name_quick lkCQ for Mine.lkC by Mine.lkC_self
name_quick lkDQ for Mine.lkD by Mine.lkD_self
name_quick gdCQ for Mine.gdC by Mine.gdC_self
name_quick gdDQ for Mine.gdD by Mine.gdD_self
set_option maxHeartbeats 0 in
theorem chkA : ∀ (w : World) (os : OsState), PySem.W.Fast.lkAQ w os = some (true, (hd.heap_1 w.params).map fun p => some p.2) := fun w os => by kernel_rfl
set_option maxHeartbeats 0 in
theorem chkC : ∀ (w : World) (os : OsState), PySem.W.Fast.lkCQ w os = some PySem.W.Fast.gdCQ := fun w os => by kernel_rfl
set_option maxHeartbeats 0 in
theorem chkD : ∀ (w : World) (os : OsState), PySem.W.Fast.lkDQ w os = some PySem.W.Fast.gdDQ := fun w os => by kernel_rfl
theorem chkA' (w : World) (os : OsState) : lkA w os = some (true, (hd.heap_1 w.params).map fun p => some p.2) := by rw [PySem.W.Fast.lkAQ_eq]; exact chkA w os
theorem chkC' (w : World) (os : OsState) : lkC w os = some gdC := by rw [PySem.W.Fast.lkCQ_eq, PySem.W.Fast.gdCQ_eq]; exact chkC w os
theorem chkD' (w : World) (os : OsState) : lkD w os = some gdD := by rw [PySem.W.Fast.lkDQ_eq, PySem.W.Fast.gdDQ_eq]; exact chkD w os
theorem bootOk (P : Params) : ((boot_heap P).isNs mainGlobals && (#[] : Array GenState).size == 0) = true := by kernel_rfl
theorem bootAnn (P : Params) : (boot_heap P).nsMap mainGlobals "__annotations__" = some (.ref 6) := by kernel_rfl
theorem bootSize (P : Params) : (boot_heap P).objs.size = 11 := by kernel_rfl
theorem topEnd {w : World} {os : OsState} {s : SharedT} (r : runT w os = some s) (g : bodyOk w.params s.abs.heap s.abs = true) :
    topFrom treeTable PySem.Challenge.pw_xm0723_01 w 4410 ⟨boot_heap w.params, #[], boot_drawn, boot_toks, os⟩ = some s.abs := by
  have a : (bootS w.params os).abs = ⟨boot_heap w.params, #[], boot_drawn, boot_toks, os⟩ := by
    unfold bootS SharedT.abs
    rw [bootT_abs]
    rfl
  have t := topRun_mono 2110 _ _ _ _ (topRun_of r)
  rw [a] at t
  unfold topFrom
  dsimp only
  rw [bootOk, bootAnn, bootSize, t]
  show (match bodyOk w.params s.abs.heap s.abs with | true => _ | false => _) = _
  rw [g]
theorem hdChk (w : World) : hdL w = some (hdG, (hd.heap_1 w.params).map fun p => some p.2) := by
  obtain ⟨s₀, e, v⟩ := Option.map_eq_some_iff.mp (boot_open (p := PySem.Challenge.pw_xm0723_01) (N := 4410) (by kernel_rfl) (by rfl) (fun _ => by kernel_rfl) w)
  obtain ⟨h, g, d, k, os⟩ := s₀
  obtain ⟨rfl, rfl, rfl, rfl⟩ : h = boot_heap w.params ∧ g = #[] ∧ d = boot_drawn ∧ k = boot_toks := by simpa using v
  obtain ⟨s, r, x⟩ := Option.map_eq_some_iff.mp (chkA' w os)
  obtain ⟨x1, x2⟩ := Prod.mk.inj x
  obtain ⟨s2, r2, y⟩ := Option.map_eq_some_iff.mp (chkC' w os)
  obtain rfl : s = s2 := Option.some.inj (r.symm.trans r2)
  obtain ⟨s3, r3, z⟩ := Option.map_eq_some_iff.mp (chkD' w os)
  obtain rfl : s = s3 := Option.some.inj (r.symm.trans r3)
  unfold hdL openEnds
  rw [e, Option.bind_some, topEnd r x1, Option.map_some, gd_eq]
  exact congrArg some (Prod.ext (Prod.ext y z) (getT_all (o := []) x2))
section
/-- the loop of the greatest common divisor -/
theorem gcd_st0 {x y : Int} (hy : 0 ≤ y) : 0 ≤ (if x < 0 then -x else x) ∧ 0 ≤ y ∧ Int.gcd (if x < 0 then -x else x) y = Int.gcd x y := by
  refine ⟨by split <;> omega, hy, ?_⟩
  split
  · exact Int.neg_gcd
  · rfl
theorem gcd_st1 {a b x y : Int} (h : Int.gcd a b = Int.gcd x y) (h2 : 0 ≤ b) (hb : 0 < b) : 0 ≤ b ∧ 0 ≤ a.fmod b ∧ Int.gcd b (a.fmod b) = Int.gcd x y := by
  refine ⟨h2, ?_, ?_⟩
  · rw [Int.fmod_eq_emod_of_nonneg _ h2]; exact Int.emod_nonneg _ (by omega)
  · rw [← h, Int.fmod_eq_emod_of_nonneg _ h2, Int.gcd_comm a b]
    have := Int.gcd_add_mul_left_right b (a % b) (a / b)
    rw [Int.emod_add_mul_ediv] at this
    exact this.symm
theorem gcd_st2 {a b x y : Int} (h : Int.gcd a b = Int.gcd x y) (h1 : 0 ≤ a) (h2 : 0 ≤ b) (hb : ¬ 0 < b) : a = (Int.gcd x y : Int) := by
  have e : b = 0 := by omega
  rw [← h, e, Int.gcd_zero_right]
  omega
theorem gcd_meas {a b : Int} (hb : 0 < b) : (a.fmod b).toNat < b.toNat := by
  have := Int.fmod_lt_of_pos a hb
  omega
theorem gcd_pos' {x y : Int} (hy : 0 < y) : 0 < (Int.gcd x y : Int) := by
  have := Int.gcd_pos_of_ne_zero_right x (b := y) (by omega)
  omega

abbrev tup2 (x y : Int) (t u : Tok) (c : Nat) : Obj := { cls := .type "tuple", data := .seq #[.int x t, .int y u] c }
abbrev tupR (C S : Addr) (c : Nat) : Obj := { cls := .type "tuple", data := .seq #[.ref C, .ref S] c }
abbrev RetT (h₀ : Heap) (L : Addr) (m : Str → Option Value) (news : List (Addr × Obj)) (s : Shared) (Q : Value → Shared → Prop) (x y : Int) : Prop :=
  ∀ (D : Addr) (t u : Tok) (c : Nat) (h' : Heap) (tk' : Nat), Fr h₀ L h' m → News h₀ L h' ((D, tup2 x y t u c) :: news) → AllLt D news → Q (.ref D) { s with heap := h', toks := tk' }
abbrev RetI (h₀ : Heap) (L : Addr) (m : Str → Option Value) (news : List (Addr × Obj)) (s : Shared) (Q : Value → Shared → Prop) (x : Int) : Prop :=
  ∀ (t : Tok) (h' : Heap) (tk' : Nat), Fr h₀ L h' m → News h₀ L h' news → Q (.int x t) { s with heap := h', toks := tk' }
abbrev RetN (h₀ : Heap) (L : Addr) (m : Str → Option Value) (news : List (Addr × Obj)) (s : Shared) (Q : Value → Shared → Prop) : Prop :=
  ∀ (h' : Heap) (tk' : Nat), Fr h₀ L h' m → News h₀ L h' news → Q .none { s with heap := h', toks := tk' }
abbrev RetR (h₀ : Heap) (L : Addr) (m : Str → Option Value) (news : List (Addr × Obj)) (s : Shared) (Q : Value → Shared → Prop) (x y z v : Int) : Prop :=
  ∀ (D C S : Addr) (c : Nat) (t1 u1 t2 u2 : Tok) (c1 c2 : Nat) (h' : Heap) (tk' : Nat), Fr h₀ L h' m → News h₀ L h' ((D, tupR C S c) :: (C, tup2 x y t1 u1 c1) :: (S, tup2 z v t2 u2 c2) :: news) → AllLt D news → Q (.ref D) { s with heap := h', toks := tk' }
theorem end_T {h₀ h' : Heap} {L D : Addr} {m : Str → Option Value} {news news' : List (Addr × Obj)} {s : Shared} {Q : Value → Shared → Prop} {x y x' y' : Int} {t u : Tok} {c : Nat} {tk' : Nat}
    (ret : RetT h₀ L m news s Q x y) (F : Fr h₀ L h' m) (N : News h₀ L h' news') (hm : (D, tup2 x' y' t u c) ∈ news') (hs : ∀ p ∈ news, p ∈ news') (lt : AllLt D news) (ex : x' = x) (ey : y' = y) : Q (.ref D) { s with heap := h', toks := tk' } := by
  subst ex; subst ey
  refine ret D t u c h' tk' F (fun p hp => ?_) lt
  rcases List.mem_cons.mp hp with rfl | hp
  · exact N _ hm
  · exact N p (hs p hp)
theorem end_R {h₀ h' : Heap} {L D C S : Addr} {m : Str → Option Value} {news news' : List (Addr × Obj)} {s : Shared} {Q : Value → Shared → Prop} {x y z v x' y' z' v' : Int} {t1 u1 t2 u2 : Tok} {c c1 c2 : Nat} {tk' : Nat}
    (ret : RetR h₀ L m news s Q x y z v) (F : Fr h₀ L h' m) (N : News h₀ L h' news') (hm : (D, tupR C S c) ∈ news') (hm1 : (C, tup2 x' y' t1 u1 c1) ∈ news') (hm2 : (S, tup2 z' v' t2 u2 c2) ∈ news') (hs : ∀ p ∈ news, p ∈ news') (lt : AllLt D news)
    (ex : x' = x) (ey : y' = y) (ez : z' = z) (ev : v' = v) : Q (.ref D) { s with heap := h', toks := tk' } := by
  subst ex; subst ey; subst ez; subst ev
  refine ret D C S c t1 u1 t2 u2 c1 c2 h' tk' F (fun p hp => ?_) lt
  rcases List.mem_cons.mp hp with rfl | hp
  · exact N _ hm
  rcases List.mem_cons.mp hp with rfl | hp
  · exact N _ hm1
  rcases List.mem_cons.mp hp with rfl | hp
  · exact N _ hm2
  · exact N p (hs p hp)
theorem end_I {h₀ h' : Heap} {L : Addr} {m : Str → Option Value} {news news' : List (Addr × Obj)} {s : Shared} {Q : Value → Shared → Prop} {x x' : Int} {t : Tok} {tk' : Nat}
    (ret : RetI h₀ L m news s Q x) (F : Fr h₀ L h' m) (N : News h₀ L h' news') (hs : ∀ p ∈ news, p ∈ news') (ex : x' = x) : Q (.int x' t) { s with heap := h', toks := tk' } := by
  subst ex
  exact ret t h' tk' F (fun p hp => N p (hs p hp))
theorem end_N {h₀ h' : Heap} {L : Addr} {m : Str → Option Value} {news news' : List (Addr × Obj)} {s : Shared} {Q : Value → Shared → Prop} {tk' : Nat}
    (ret : RetN h₀ L m news s Q) (F : Fr h₀ L h' m) (N : News h₀ L h' news') (hs : ∀ p ∈ news, p ∈ news') : Q .none { s with heap := h', toks := tk' } :=
  ret h' tk' F (fun p hp => N p (hs p hp))

/-- a pair of ints stands at A: on the ledger, or below -/
def TupIn (h₀ : Heap) (news : List (Addr × Obj)) (A : Addr) (x y : Int) : Prop := ∃ t u c, (A, tup2 x y t u c) ∈ news ∨ h₀.get? A = some (tup2 x y t u c)
theorem TupIn.mono {h₀ g : Heap} {news news' : List (Addr × Obj)} {A : Addr} {x y : Int} (T : TupIn h₀ news A x y) (k : ∀ b o, h₀.get? b = some o → g.get? b = some o) (hs : ∀ p ∈ news, p ∈ news') : TupIn g news' A x y := by
  obtain ⟨t, u, c, h | h⟩ := T
  · exact ⟨t, u, c, .inl (hs _ h)⟩
  · exact ⟨t, u, c, .inr (k _ _ h)⟩
theorem TupIn.of_news {h₀ : Heap} {news : List (Addr × Obj)} {A : Addr} {x y : Int} {t u : Tok} {c : Nat} (h : (A, tup2 x y t u c) ∈ news) : TupIn h₀ news A x y := ⟨t, u, c, .inl h⟩
theorem TupIn.of_K {K : Frag} {h₀ : Heap} {news : List (Addr × Obj)} {A : Addr} {x y : Int} {t u : Tok} {c : Nat} (X : K.In h₀) (h : K.lookup A = some (tup2 x y t u c)) : TupIn h₀ news A x y := ⟨t, u, c, .inr (X _ _ h)⟩
theorem TupIn.isTup {h₀ h : Heap} {L : Addr} {m : Str → Option Value} {news news' : List (Addr × Obj)} {A : Addr} {x y : Int} (T : TupIn h₀ news A x y) (F : Fr h₀ L h m) (N : News h₀ L h news') (hs : ∀ p ∈ news, p ∈ news') : ∃ t u, IsTup h A #[.int x t, .int y u] := by
  obtain ⟨t, u, c, e | e⟩ := T
  · exact ⟨t, u, _, (N _ (hs _ e)).1, rfl, c, rfl⟩
  · exact ⟨t, u, _, F.keep _ _ e, rfl, c, rfl⟩

section
variable {prog : Program} {w : World} {Ar : Around} {E : Value → Shared → Prop} {s : Shared} {h₀ : Heap} {L A : Addr} {m : Str → Option Value} {news news' : List (Addr × Obj)} {x y : Int} {u : Tok} {value slice : PySem.Expr} {Q : Value → Shared → Prop}
theorem tup_fst (T : TupIn h₀ news A x y) (F : Fr h₀ L s.heap m) (N : News h₀ L s.heap news') (hs : ∀ p ∈ news, p ∈ news') (h : ∀ t, Q (.int x t) s)
    (hsub : subscripted slice false (.ref A) (.int 0 u) = operate [.ref A, .int 0 u] (getItem (.ref A) (.int 0 u)) := by with_unfolding_all rfl) :
    wpAny (model prog w) Ar (subscriptTail value slice (.ref A) (.int 0 u)) Q E s := by
  obtain ⟨t, v, i⟩ := T.isTup F N hs
  exact item_tupleT i (by decide) (by decide) rfl rfl (h t) hsub
theorem tup_snd (T : TupIn h₀ news A x y) (F : Fr h₀ L s.heap m) (N : News h₀ L s.heap news') (hs : ∀ p ∈ news, p ∈ news') (h : ∀ t, Q (.int y t) s)
    (hsub : subscripted slice false (.ref A) (.int 1 u) = operate [.ref A, .int 1 u] (getItem (.ref A) (.int 1 u)) := by with_unfolding_all rfl) :
    wpAny (model prog w) Ar (subscriptTail value slice (.ref A) (.int 1 u)) Q E s := by
  obtain ⟨t, v, i⟩ := T.isTup F N hs
  exact item_tupleT i (by decide) (by decide) rfl rfl (h v) hsub
end

/-- what fraction gives -/
noncomputable def fracF (t b : Int) : Int × Int :=
  let t' := if b < 0 then -t else t
  let b' := if b < 0 then -b else b
  let g := (Int.gcd t' b' : Int)
  (t'.fdiv g, b'.fdiv g)
theorem fracF_neg {t b : Int} (h : b < 0) : fracF t b = ((-t).fdiv (Int.gcd (-t) (-b) : Int), (-b).fdiv (Int.gcd (-t) (-b) : Int)) := by simp only [fracF, if_pos h]
theorem fracF_pos {t b : Int} (h : ¬ b < 0) : fracF t b = (t.fdiv (Int.gcd t b : Int), b.fdiv (Int.gcd t b : Int)) := by simp only [fracF, if_neg h]
theorem fracF_den {t b : Int} (h : b ≠ 0) : 0 < (fracF t b).2 := by
  have key : ∀ x y : Int, 0 < y → 0 < y.fdiv (Int.gcd x y : Int) := fun x y hy => by
    have g := gcd_pos' (x := x) hy
    rw [Int.fdiv_eq_ediv_of_nonneg _ (Int.le_of_lt g)]
    exact Int.ediv_pos_of_pos_of_dvd hy (Int.le_of_lt g) (Int.gcd_dvd_right x y)
  by_cases hb : b < 0
  · rw [fracF_neg hb]; exact key _ _ (by omega)
  · rw [fracF_pos hb]; exact key _ _ (by omega)
theorem bits_gcd {x y : Int} {n : Nat} (hy : 0 < y) (h : intBits y ≤ n) : intBits (Int.gcd x y : Int) ≤ n := by
  refine bits_of_natAbs_le ?_ h
  have h1 := Int.gcd_dvd_right x y
  have h2 := Int.le_of_dvd hy h1
  omega
theorem bits_frac1 {t b : Int} {n : Nat} (h : intBits t ≤ n) : intBits (fracF t b).1 ≤ n := by
  by_cases hb : b < 0
  · rw [fracF_neg hb]; exact bits_fdiv (bits_neg h)
  · rw [fracF_pos hb]; exact bits_fdiv h
theorem bits_frac2 {t b : Int} {n : Nat} (h : intBits b ≤ n) : intBits (fracF t b).2 ≤ n := by
  by_cases hb : b < 0
  · rw [fracF_neg hb]; exact bits_fdiv (bits_neg h)
  · rw [fracF_pos hb]; exact bits_fdiv h
theorem bits_lit8 {x : Int} (h : x.natAbs < 2 ^ 8) : intBits x ≤ 8 := intBits_le_iff.mpr h
theorem bits_lit20 {x : Int} (h : x.natAbs < 2 ^ 20) : intBits x ≤ 20 := intBits_le_iff.mpr h
theorem bits_lit {x : Int} (h : x.natAbs < 2 ^ 200) : intBits x ≤ 200 := intBits_le_iff.mpr h
theorem fdiv_bits {prog : Program} {w : World} {A : Around} {E : Value → Shared → Prop} {s : Shared} {a b : Int} {t u : Tok} {Q : Value → Shared → Prop} {n : Nat} (hb : b ≠ 0) (hn : intBits b ≤ n) (h8 : n ≤ 8000) (h : Q (.int (a.fdiv b) s.toks) { s with toks := s.toks + 1 }) :
    wpAny (model prog w) A (binaryOp .FloorDiv (.int a t) (.int b u)) Q E s :=
  floordiv_int hb h (Or.inl (PyProof.noPylong_of_log2 (by
    have h1 : b.natAbs < 2 ^ n := intBits_le_iff.mp hn
    have h2 := (Nat.log2_lt (by omega)).mpr h1
    omega)))
theorem mul_bits {prog : Program} {w : World} {A : Around} {E : Value → Shared → Prop} {s : Shared} {a b : Int} {t u : Tok} {Q : Value → Shared → Prop} {k n : Nat} (ha : intBits a ≤ k) (hb : intBits b ≤ n) (hn : k + n ≤ 100000000) (h : Q (.int (a * b) s.toks) { s with toks := s.toks + 1 }) :
    wpAny (model prog w) A (binaryOp .Mult (.int a t) (.int b u)) Q E s := mul_int h (mulOk_of_bits ha hb (by omega))

noncomputable def signF (x : Int) : Int := if x > 0 then 1 else if x < 0 then -1 else 0
noncomputable def roundF (x y : Int) : Int := (2 * x + y).fdiv (2 * y)
noncomputable def piTop : Int := 314159265358979323846264338327950288419716939937510
noncomputable def piBottom : Int := 100000000000000000000000000000000000000000000000000
noncomputable def radF (x y scale : Int) : Int := (x * piTop * scale).fdiv (180 * y * piBottom)
noncomputable def nearF (number scale bottom : Int) : Int × Int := fracF (roundF (fracF (number * bottom) scale).1 (fracF (number * bottom) scale).2) bottom

/-- the loop of the series -/
noncomputable def stepF (sq sc term step : Int) : Int := -((term * sq).fdiv sc).fdiv (step * (step + 1))
noncomputable def serF (sq sc : Int) : Nat → Int → Int → Int → Int
  | 0, total, _, _ => total
  | n + 1, total, term, step => if term = 0 then total else serF sq sc n (total + term) (stepF sq sc term step) (step + 2)
noncomputable def mu (t : Int) : Nat := 2 * t.natAbs + (if t < 0 then 1 else 0)
theorem fdiv_mid {t q c : Int} (h0 : 0 ≤ q) (h1 : q ≤ c) (hc : 0 < c) : (0 ≤ t → 0 ≤ (t * q).fdiv c ∧ (t * q).fdiv c ≤ t) ∧ (t < 0 → t ≤ (t * q).fdiv c ∧ (t * q).fdiv c ≤ 0) := by
  rw [Int.fdiv_eq_ediv_of_nonneg _ (Int.le_of_lt hc)]
  refine ⟨fun h => ⟨Int.ediv_nonneg (Int.mul_nonneg h h0) (Int.le_of_lt hc), ?_⟩, fun h => ⟨?_, ?_⟩⟩
  · exact Int.ediv_le_of_le_mul hc (Int.mul_le_mul_of_nonneg_left h1 h)
  · exact (Int.le_ediv_iff_mul_le hc).mpr (Int.mul_le_mul_of_nonpos_left (Int.le_of_lt h) h1)
  · have : (t * q) / c < 1 := Int.ediv_lt_of_lt_mul hc (by
      have := Int.mul_nonneg (show 0 ≤ -t by omega) h0
      rw [Int.neg_mul] at this
      omega)
    omega
theorem fdiv_half {x d : Int} (hd : 2 ≤ d) : (0 ≤ x → 0 ≤ x.fdiv d ∧ 2 * x.fdiv d ≤ x) ∧ (x < 0 → x.fdiv d < 0 ∧ x - 1 ≤ 2 * x.fdiv d) := by
  have f := fdiv_fmod_facts x d
  have f1 := f.1
  have f2 := f.2.2.1 (by omega)
  generalize x.fdiv d = y at *
  generalize x.fmod d = r at *
  constructor
  · intro hx
    have hy : 0 ≤ y := by
      rcases Int.lt_or_le y 0 with h | h
      · have := Int.mul_le_mul_of_nonneg_right (show y ≤ -1 by omega) (show 0 ≤ d by omega)
        omega
      · exact h
    have := Int.mul_le_mul_of_nonneg_left hd hy
    omega
  · intro hx
    have hy : y < 0 := by
      rcases Int.lt_or_le y 0 with h | h
      · exact h
      · have := Int.mul_nonneg h (show 0 ≤ d by omega)
        omega
    have := Int.mul_le_mul_of_nonneg_left hd (show 0 ≤ -(y + 1) by omega)
    simp only [Int.neg_mul, Int.add_mul, Int.one_mul] at this
    omega
theorem step_sq {step : Int} (h : 1 ≤ step) : 2 ≤ step * (step + 1) := by
  have := Int.mul_le_mul_of_nonneg_right h (show 0 ≤ step + 1 by omega)
  omega
theorem mu_step {sq sc term step : Int} (h0 : 0 ≤ sq) (h1 : sq ≤ sc) (hc : 0 < sc) (hs : 1 ≤ step) (ht : term ≠ 0) : mu (stepF sq sc term step) < mu term ∧ (stepF sq sc term step).natAbs ≤ term.natAbs := by
  have a := fdiv_mid (t := term) h0 h1 hc
  have b := fdiv_half (x := (term * sq).fdiv sc) (step_sq hs)
  have e : stepF sq sc term step = -((term * sq).fdiv sc).fdiv (step * (step + 1)) := rfl
  generalize stepF sq sc term step = z at *
  generalize (term * sq).fdiv sc = x at *
  generalize x.fdiv (step * (step + 1)) = y at *
  unfold mu
  constructor
  · split <;> split <;> omega
  · omega
theorem serF_stop {sq sc total step : Int} (n : Nat) : serF sq sc n total 0 step = total := by cases n <;> simp [serF]
theorem serF_go {sq sc total term step : Int} (n : Nat) (ht : term ≠ 0) : serF sq sc (n + 1) total term step = serF sq sc n (total + term) (stepF sq sc term step) (step + 2) := by simp [serF, ht]
theorem serF_same {sq sc : Int} (h0 : 0 ≤ sq) (h1 : sq ≤ sc) (hc : 0 < sc) : ∀ (n k : Nat) (total term step : Int), 1 ≤ step → mu term < n → mu term < k → serF sq sc n total term step = serF sq sc k total term step := by
  intro n
  induction n with
  | zero => intro k total term step _ h; exact absurd h (Nat.not_lt_zero _)
  | succ n ih =>
    intro k total term step hs hn hk
    cases k with
    | zero => exact absurd hk (Nat.not_lt_zero _)
    | succ k =>
      by_cases ht : term = 0
      · subst ht; rw [serF_stop, serF_stop]
      · rw [serF_go n ht, serF_go k ht]
        have := (mu_step h0 h1 hc hs ht).1
        exact ih k _ _ _ (by omega) (by omega) (by omega)
noncomputable def serV (first sq sc begin : Int) : Int := serF sq sc (mu first + 1) 0 first begin
/-- what holds between the turns -/
theorem ser_st0 {first sq sc begin : Int} (hb : 1 ≤ begin) : first.natAbs ≤ first.natAbs ∧ 1 ≤ begin ∧ begin + 2 * (mu first : Int) ≤ begin + 2 * (mu first : Int) ∧ serF sq sc (mu first + 1) 0 first begin = serV first sq sc begin :=
  ⟨Nat.le_refl _, hb, Int.le_refl _, rfl⟩
theorem ser_st1 {first sq sc begin total term step : Int} (h0 : 0 ≤ sq) (h1 : sq ≤ sc) (hc : 0 < sc) (i1 : term.natAbs ≤ first.natAbs) (i2 : 1 ≤ step) (i3 : step + 2 * (mu term : Int) ≤ begin + 2 * (mu first : Int))
    (i5 : serF sq sc (mu term + 1) total term step = serV first sq sc begin) (ht : term ≠ 0) :
    (stepF sq sc term step).natAbs ≤ first.natAbs ∧ 1 ≤ step + 2 ∧ step + 2 + 2 * (mu (stepF sq sc term step) : Int) ≤ begin + 2 * (mu first : Int) ∧
      serF sq sc (mu (stepF sq sc term step) + 1) (total + term) (stepF sq sc term step) (step + 2) = serV first sq sc begin := by
  obtain ⟨a, b⟩ := mu_step h0 h1 hc i2 ht
  refine ⟨by omega, by omega, by omega, ?_⟩
  rw [← i5, serF_go _ ht]
  exact serF_same h0 h1 hc _ _ _ _ _ (by omega) (by omega) a
theorem ser_st2 {first sq sc begin total term step : Int} (i5 : serF sq sc (mu term + 1) total term step = serV first sq sc begin) (ht : term = 0) : total = serV first sq sc begin := by
  subst ht
  rw [← i5, serF_stop]
theorem ser_meas {sq sc term step : Int} (h0 : 0 ≤ sq) (h1 : sq ≤ sc) (hc : 0 < sc) (hs : 1 ≤ step) (ht : term ≠ 0) : mu (stepF sq sc term step) < mu term := (mu_step h0 h1 hc hs ht).1
theorem mu_le (t : Int) : mu t ≤ 2 * t.natAbs + 1 := by unfold mu; split <;> omega
theorem bits_step {first begin term step : Int} (h1 : 1 ≤ step) (h2 : step + 2 * (mu term : Int) ≤ begin + 2 * (mu first : Int)) (hb : begin ≤ 2) (hf : intBits first ≤ 1000) : intBits step ≤ 1003 := by
  have k := intBits_le_iff.mp hf
  have q := mu_le first
  refine intBits_le_iff.mpr ?_
  rw [show (2 : Nat) ^ 1003 = 8 * 2 ^ 1000 from by decide +kernel]
  generalize (2 : Nat) ^ 1000 = P at *
  omega
theorem step_ne {step : Int} (h : 1 ≤ step) : step * (step + 1) ≠ 0 := by
  have := step_sq h
  omega
theorem serF_abs {sq sc : Int} {b : Nat} (h0 : 0 ≤ sq) (h1 : sq ≤ sc) (hc : 0 < sc) : ∀ (n : Nat) (total term step : Int), 1 ≤ step → term.natAbs ≤ b → (serF sq sc n total term step).natAbs ≤ total.natAbs + n * b := by
  intro n
  induction n with
  | zero => intro total term step _ _; simp [serF]
  | succ n ih =>
    intro total term step hs hb
    by_cases ht : term = 0
    · subst ht; rw [serF_stop]; exact Nat.le_add_right _ _
    · rw [serF_go n ht]
      have m := mu_step h0 h1 hc hs ht
      have := ih (total + term) (stepF sq sc term step) (step + 2) (by omega) (by omega)
      rw [Nat.add_mul, Nat.one_mul]
      generalize n * b = nb at *
      omega
theorem bits_serV {first sq sc begin : Int} {n : Nat} (h0 : 0 ≤ sq) (h1 : sq ≤ sc) (hc : 0 < sc) (hb : 1 ≤ begin) (hf : intBits first ≤ n) : intBits (serV first sq sc begin) ≤ n + n + 1 := by
  have k := intBits_le_iff.mp hf
  have q := mu_le first
  refine intBits_le_iff.mpr ?_
  have a := serF_abs h0 h1 hc (mu first + 1) 0 first begin hb (Nat.le_refl _)
  unfold serV
  have b := Nat.mul_le_mul_right first.natAbs (show mu first + 1 ≤ 2 * 2 ^ n by omega)
  have c := Nat.mul_lt_mul_of_pos_left k (show 0 < 2 * 2 ^ n from Nat.mul_pos (by decide) (Nat.two_pow_pos n))
  rw [show (2 : Nat) ^ (n + n + 1) = 2 * 2 ^ n * 2 ^ n from by rw [Nat.pow_succ, Nat.pow_add, Nat.mul_comm, Nat.mul_assoc]]
  have e : Int.natAbs 0 = 0 := rfl
  omega
end
section
abbrev RetV (h₀ : Heap) (L : Addr) (m : Str → Option Value) (news : List (Addr × Obj)) (s : Shared) (Q : Value → Shared → Prop) (V : (Int × Int) × (Int × Int)) : Prop :=
  ∀ (x y z v : Int) (D C S : Addr) (c : Nat) (t1 u1 t2 u2 : Tok) (c1 c2 : Nat) (h' : Heap) (tk' : Nat), ((x, y), (z, v)) = V → 0 < y → 0 < v → intBits x ≤ 1000 → intBits y ≤ 1000 → intBits z ≤ 1000 → intBits v ≤ 1000 →
    Fr h₀ L h' m → News h₀ L h' ((D, tupR C S c) :: (C, tup2 x y t1 u1 c1) :: (S, tup2 z v t2 u2 c2) :: news) → AllLt D news → Q (.ref D) { s with heap := h', toks := tk' }
theorem end_V {h₀ h' : Heap} {L D C S : Addr} {m : Str → Option Value} {news news' : List (Addr × Obj)} {s : Shared} {Q : Value → Shared → Prop} {V : (Int × Int) × (Int × Int)} {x y z v : Int} {t1 u1 t2 u2 : Tok} {c c1 c2 : Nat} {tk' : Nat}
    (ret : RetV h₀ L m news s Q V) (F : Fr h₀ L h' m) (N : News h₀ L h' news') (hm : (D, tupR C S c) ∈ news') (hm1 : (C, tup2 x y t1 u1 c1) ∈ news') (hm2 : (S, tup2 z v t2 u2 c2) ∈ news') (hs : ∀ p ∈ news, p ∈ news') (lt : AllLt D news)
    (e : ((x, y), (z, v)) = V) (p1 : 0 < y) (p2 : 0 < v) (b1 : intBits x ≤ 1000) (b2 : intBits y ≤ 1000) (b3 : intBits z ≤ 1000) (b4 : intBits v ≤ 1000) : Q (.ref D) { s with heap := h', toks := tk' } := by
  refine ret x y z v D C S c t1 u1 t2 u2 c1 c2 h' tk' e p1 p2 b1 b2 b3 b4 F (fun p hp => ?_) lt
  rcases List.mem_cons.mp hp with rfl | hp
  · exact N _ hm
  rcases List.mem_cons.mp hp with rfl | hp
  · exact N _ hm1
  rcases List.mem_cons.mp hp with rfl | hp
  · exact N _ hm2
  · exact N p (hs p hp)

/-- an angle of at most 45 degrees -/
noncomputable def smallF (x y b : Int) : (Int × Int) × (Int × Int) :=
  let sc := b * 65536
  let r := radF x y sc
  let sq := (r * r).fdiv sc
  (nearF (serV sc sq sc 1) sc b, nearF (serV r sq sc 2) sc b)
theorem fracF_dvd (t : Int) {b : Int} (hb : 0 < b) : ∃ g : Int, 0 < g ∧ t = g * (fracF t b).1 ∧ b = g * (fracF t b).2 := by
  refine ⟨(Int.gcd t b : Int), gcd_pos' hb, ?_, ?_⟩
  · rw [fracF_pos (by omega)]
    rw [Int.fdiv_eq_ediv_of_nonneg _ (Int.le_of_lt (gcd_pos' hb))]
    exact (Int.mul_ediv_cancel' (Int.gcd_dvd_left t b)).symm
  · rw [fracF_pos (by omega)]
    show b = (Int.gcd t b : Int) * b.fdiv (Int.gcd t b : Int)
    rw [Int.fdiv_eq_ediv_of_nonneg _ (Int.le_of_lt (gcd_pos' hb))]
    exact (Int.mul_ediv_cancel' (Int.gcd_dvd_right t b)).symm
theorem frac_le {t b k : Int} (hb : 0 < b) (h : t ≤ k * b) : (fracF t b).1 ≤ k * (fracF t b).2 := by
  obtain ⟨g, hg, e1, e2⟩ := fracF_dvd t hb
  generalize (fracF t b).1 = x at *
  generalize (fracF t b).2 = y at *
  subst e1 e2
  rw [Int.mul_left_comm] at h
  exact Int.le_of_mul_le_mul_left h hg
theorem frac_nonneg {t b : Int} (hb : 0 < b) (h : 0 ≤ t) : 0 ≤ (fracF t b).1 := by
  obtain ⟨g, hg, e1, e2⟩ := fracF_dvd t hb
  rw [e1] at h
  rcases Int.lt_or_le (fracF t b).1 0 with q | q
  · have := Int.mul_neg_of_pos_of_neg hg q
    omega
  · exact q
theorem rad_bounds {x y sc : Int} (h0 : 0 ≤ x) (h1 : x ≤ 45 * y) (hy : 0 < y) (hsc : 0 < sc) : 0 ≤ radF x y sc ∧ radF x y sc ≤ sc := by
  unfold radF
  have hd : 0 < 180 * y * piBottom := Int.mul_pos (by omega) (by decide +kernel)
  rw [Int.fdiv_eq_ediv_of_nonneg _ (Int.le_of_lt hd)]
  constructor
  · exact Int.ediv_nonneg (Int.mul_nonneg (Int.mul_nonneg h0 (by decide +kernel)) (Int.le_of_lt hsc)) (Int.le_of_lt hd)
  · refine Int.ediv_le_of_le_mul hd ?_
    have a : x * piTop * sc ≤ 45 * y * piTop * sc := Int.mul_le_mul_of_nonneg_right (Int.mul_le_mul_of_nonneg_right h1 (by decide +kernel)) (Int.le_of_lt hsc)
    have b : (45 * piTop) * (y * sc) ≤ (180 * piBottom) * (y * sc) := Int.mul_le_mul_of_nonneg_right (by decide +kernel) (Int.mul_nonneg (Int.le_of_lt hy) (Int.le_of_lt hsc))
    have e1 : 45 * y * piTop * sc = (45 * piTop) * (y * sc) := by ac_rfl
    have e2 : sc * (180 * y * piBottom) = (180 * piBottom) * (y * sc) := by ac_rfl
    omega
theorem sq_bounds {r sc : Int} (h0 : 0 ≤ r) (h1 : r ≤ sc) (hsc : 0 < sc) : 0 ≤ (r * r).fdiv sc ∧ (r * r).fdiv sc ≤ sc := by
  rw [Int.fdiv_eq_ediv_of_nonneg _ (Int.le_of_lt hsc)]
  exact ⟨Int.ediv_nonneg (Int.mul_nonneg h0 h0) (Int.le_of_lt hsc), Int.ediv_le_of_le_mul hsc (Int.mul_le_mul h1 h1 h0 (Int.le_of_lt hsc))⟩
theorem bits_le {x y : Int} {n : Nat} (h0 : 0 ≤ x) (h1 : x ≤ y) (h : intBits y ≤ n) : intBits x ≤ n := bits_of_natAbs_le (by omega) h
theorem bits_near1 {x sc b : Int} {i j : Nat} (h1 : intBits x ≤ i) (h2 : intBits b ≤ j) (h3 : intBits sc ≤ i + j) : intBits (nearF x sc b).1 ≤ i + j + 4 := by
  unfold nearF
  refine bits_frac1 ?_
  unfold roundF
  refine bits_fdiv ?_
  refine Nat.le_trans (bits_add (bits_mul (m := 2) (by decide +kernel) (bits_frac1 (bits_mul h1 h2))) (bits_frac2 h3)) ?_
  omega
theorem bits_near2 {x sc b : Int} {j : Nat} (h2 : intBits b ≤ j) : intBits (nearF x sc b).2 ≤ j := bits_frac2 h2
theorem near_den {x sc b : Int} (h : b ≠ 0) : 0 < (nearF x sc b).2 := fracF_den h
structure SmallFacts (x y b : Int) : Prop where
  sc0 : 0 < b * 65536
  scb : intBits (b * 65536) ≤ 170
  r0 : 0 ≤ radF x y (b * 65536)
  r1 : radF x y (b * 65536) ≤ b * 65536
  rb : intBits (radF x y (b * 65536)) ≤ 170
  q0 : 0 ≤ (radF x y (b * 65536) * radF x y (b * 65536)).fdiv (b * 65536)
  q1 : (radF x y (b * 65536) * radF x y (b * 65536)).fdiv (b * 65536) ≤ b * 65536
  qb : intBits ((radF x y (b * 65536) * radF x y (b * 65536)).fdiv (b * 65536)) ≤ 170
  cb : intBits (serV (b * 65536) ((radF x y (b * 65536) * radF x y (b * 65536)).fdiv (b * 65536)) (b * 65536) 1) ≤ 400
  sb : intBits (serV (radF x y (b * 65536)) ((radF x y (b * 65536) * radF x y (b * 65536)).fdiv (b * 65536)) (b * 65536) 2) ≤ 400
theorem small_facts {x y b : Int} (h0 : 0 ≤ x) (h1 : x ≤ 45 * y) (hy : 0 < y) (hb : 0 < b) (bb : intBits b ≤ 150) : SmallFacts x y b := by
  have sc0 : 0 < b * 65536 := by omega
  have scb : intBits (b * 65536) ≤ 170 := Nat.le_trans (bits_mul (n := 17) bb (by decide +kernel)) (by omega)
  have r := rad_bounds (sc := b * 65536) h0 h1 hy sc0
  have q := sq_bounds r.1 r.2 sc0
  have rb := bits_le r.1 r.2 scb
  exact ⟨sc0, scb, r.1, r.2, rb, q.1, q.2, bits_le q.1 q.2 scb, Nat.le_trans (bits_serV q.1 q.2 sc0 (by decide) scb) (by omega), Nat.le_trans (bits_serV q.1 q.2 sc0 (by decide) rb) (by omega)⟩

noncomputable def quarterF (x y b : Int) : (Int × Int) × (Int × Int) :=
  if x * 1 - 45 * y < 0 then smallF x y b
  else if x * 1 - 45 * y = 0 then ((smallF x y b).1, (smallF x y b).1)
  else ((smallF (fracF (90 * y - x * 1) (1 * y)).1 (fracF (90 * y - x * 1) (1 * y)).2 b).2, (smallF (fracF (90 * y - x * 1) (1 * y)).1 (fracF (90 * y - x * 1) (1 * y)).2 b).1)
noncomputable def rotF (p : (Int × Int) × (Int × Int)) : (Int × Int) × (Int × Int) := ((-p.2.1, p.2.2), p.1)
noncomputable def rotN (k : Int) (p : (Int × Int) × (Int × Int)) : (Int × Int) × (Int × Int) := if k = 0 then p else if k = 1 then rotF p else if k = 2 then rotF (rotF p) else rotF (rotF (rotF p))
/-- how many right angles -/
noncomputable def quartF (x y : Int) : Int := (fracF (x * 1) (y * 90)).1.fdiv (fracF (x * 1) (y * 90)).2
noncomputable def restF (x y : Int) : Int × Int := fracF (x * 1 - 90 * quartF x y * y) (y * 1)
noncomputable def baseF (r : Int × Int) (b : Int) : (Int × Int) × (Int × Int) := if r.1 ≠ 0 then quarterF r.1 r.2 b else ((1, 1), (0, 1))
noncomputable def turnF (x y b : Int) : (Int × Int) × (Int × Int) := rotN ((quartF x y).fmod 4) (baseF (restF x y) b)
/-- the tangent, as tangent_of tells it -/
noncomputable def tellF (p : (Int × Int) × (Int × Int)) : Int × Int :=
  let t := fracF (p.2.1 * p.1.2) (p.2.2 * p.1.1)
  let u := fracF (t.1 * 65536) (t.2 * 1)
  fracF (roundF u.1 u.2) 65536
theorem quart_eq {x y : Int} (hy : 0 < y) : quartF x y = x.fdiv (y * 90) := by
  unfold quartF
  obtain ⟨g, hg, e1, e2⟩ := fracF_dvd (x * 1) (show 0 < y * 90 by omega)
  have hd := fracF_den (t := x * 1) (show y * 90 ≠ 0 by omega)
  generalize (fracF (x * 1) (y * 90)).1 = t at *
  generalize (fracF (x * 1) (y * 90)).2 = b at *
  rw [show x = x * 1 by omega, e1, e2, Int.fdiv_eq_ediv_of_nonneg _ (Int.le_of_lt hd), Int.fdiv_eq_ediv_of_nonneg _ (Int.le_of_lt (Int.mul_pos hg hd)), Int.mul_ediv_mul_of_pos _ _ hg]
theorem quart_bounds {x y : Int} (hy : 0 < y) : 0 ≤ x * 1 - 90 * quartF x y * y ∧ x * 1 - 90 * quartF x y * y ≤ 90 * (y * 1) := by
  rw [quart_eq hy]
  have f := fdiv_fmod_facts x (y * 90)
  have f1 := f.1
  have f2 := f.2.2.1 (by omega)
  generalize x.fdiv (y * 90) = q at *
  have e : q * (y * 90) = 90 * q * y := by ac_rfl
  omega
theorem rest_bounds {x y : Int} (hy : 0 < y) : 0 ≤ (restF x y).1 ∧ (restF x y).1 ≤ 90 * (restF x y).2 ∧ 0 < (restF x y).2 :=
  ⟨frac_nonneg (by omega) (quart_bounds hy).1, frac_le (by omega) (quart_bounds hy).2, fracF_den (by omega)⟩
theorem signF_lt {z : Int} : signF z < 0 ↔ z < 0 := by unfold signF; split <;> (try split) <;> omega
theorem signF_eq {z : Int} : signF z = 0 ↔ z = 0 := by unfold signF; split <;> (try split) <;> omega
theorem quarter_lt {a0 a1 b : Int} {v : (Int × Int) × (Int × Int)} (h : signF (a0 * 1 - 45 * a1) < 0) (e : v = smallF a0 a1 b) : v = quarterF a0 a1 b := by
  rw [e]; unfold quarterF; rw [if_pos (signF_lt.mp h)]
theorem quarter_eq {a0 a1 b x y z v : Int} (h : signF (a0 * 1 - 45 * a1) = 0) (e : ((x, y), (z, v)) = smallF a0 a1 b) : ((x, y), (x, y)) = quarterF a0 a1 b := by
  unfold quarterF
  have h' := signF_eq.mp h
  rw [if_neg (by omega), if_pos h', ← e]
theorem quarter_gt {a0 a1 b x y z v : Int} (h : ¬ signF (a0 * 1 - 45 * a1) < 0) (h2 : ¬ signF (a0 * 1 - 45 * a1) = 0) (e : ((x, y), (z, v)) = smallF (fracF (90 * a1 - a0 * 1) (1 * a1)).1 (fracF (90 * a1 - a0 * 1) (1 * a1)).2 b) : ((z, v), (x, y)) = quarterF a0 a1 b := by
  unfold quarterF
  rw [signF_lt] at h
  rw [signF_eq] at h2
  rw [if_neg h, if_neg h2, ← e]
theorem quarter_facts {a0 a1 : Int} (g0 : 0 ≤ a0) (g1 : a0 ≤ 90 * a1) (g2 : 0 < a1) : (signF (a0 * 1 - 45 * a1) < 0 → a0 ≤ 45 * a1) ∧ (signF (a0 * 1 - 45 * a1) = 0 → a0 ≤ 45 * a1) ∧ 0 ≤ (fracF (90 * a1 - a0 * 1) (1 * a1)).1 ∧ (¬ signF (a0 * 1 - 45 * a1) < 0 → (fracF (90 * a1 - a0 * 1) (1 * a1)).1 ≤ 45 * (fracF (90 * a1 - a0 * 1) (1 * a1)).2) ∧ 0 < (fracF (90 * a1 - a0 * 1) (1 * a1)).2 ∧ 1 * a1 ≠ 0 := by
  rw [signF_lt, signF_eq]
  refine ⟨fun h => by omega, fun h => by omega, frac_nonneg (by omega) (by omega), fun h => frac_le (by omega) (by omega), fracF_den (by omega), by omega⟩
theorem base_go {r : Int × Int} {b : Int} {v : (Int × Int) × (Int × Int)} (h : ¬ r.1 = 0) (e : v = quarterF r.1 r.2 b) : v = baseF r b := by
  unfold baseF; rw [if_pos h]; exact e
theorem base_no {r : Int × Int} {b : Int} (h : r.1 = 0) : ((1, 1), (0, 1)) = baseF r b := by
  unfold baseF; rw [if_neg (by simpa using h)]
theorem turn_k0 {a0 a1 b x y z v : Int} (hk : (quartF a0 a1).fmod 4 = 0) (e : ((x, y), (z, v)) = baseF (restF a0 a1) b) : ((x, y), (z, v)) = turnF a0 a1 b := by
  unfold turnF; rw [hk, ← e]; rfl
theorem turn_k1 {a0 a1 b x y z v : Int} (hk : (quartF a0 a1).fmod 4 = 1) (e : ((x, y), (z, v)) = baseF (restF a0 a1) b) : ((-z, v), (x, y)) = turnF a0 a1 b := by
  unfold turnF; rw [hk, ← e]; rfl
theorem turn_k2 {a0 a1 b x y z v : Int} (hk : (quartF a0 a1).fmod 4 = 2) (e : ((x, y), (z, v)) = baseF (restF a0 a1) b) : ((-x, y), (-z, v)) = turnF a0 a1 b := by
  unfold turnF; rw [hk, ← e]; rfl
theorem turn_k3 {a0 a1 b x y z v : Int} (hk : (quartF a0 a1).fmod 4 = 3) (e : ((x, y), (z, v)) = baseF (restF a0 a1) b) : ((- -z, v), (-x, y)) = turnF a0 a1 b := by
  unfold turnF; rw [hk, ← e]; rfl
theorem bits_of_lid {b : Int} (h1 : 1 ≤ b) (h2 : b ≤ 10000000000000000000000000000000000000000) : intBits b ≤ 150 :=
  intBits_le_iff.mpr (by
    have : (10000000000000000000000000000000000000000 : Nat) < 2 ^ 150 := by decide +kernel
    omega)
theorem unrEnd_2 {h₀ : Heap} {L I : Addr} {it : Obj} {rest : (Str → Option Value) → List (Addr × Obj) → Prop} {s₁ : Shared} {h' : Heap} {tk : Nat} {m' : Str → Option Value} {p q : Addr × Obj} {old : List (Addr × Obj)} (F : Fr h₀ L h' m') (N : News h₀ L h' (p :: q :: (I, it) :: old))
    (o1 : p.1 ≠ I) (o2 : q.1 ≠ I) (off : ∀ x ∈ old, x.1 ≠ I) (r : rest m' (p :: q :: old)) : UnrEnd h₀ L s₁ I it rest { s₁ with heap := h', toks := tk } := by
  refine UnrEnd.intro F N (p :: q :: old) ?_ ?_ r
  · intro x hx
    rcases List.mem_cons.mp hx with rfl | hx
    · exact .tail _ (.tail _ (.head _))
    rcases List.mem_cons.mp hx with rfl | hx
    · exact .head _
    rcases List.mem_cons.mp hx with rfl | hx
    · exact .tail _ (.head _)
    · exact .tail _ (.tail _ (.tail _ hx))
  · intro x hx
    rcases List.mem_cons.mp hx with rfl | hx
    · exact o1
    rcases List.mem_cons.mp hx with rfl | hx
    · exact o2
    · exact off x hx
theorem turnA_k0 {a0 a1 b x y z v : Int} (hk : ((fracF (a0 * 1) (a1 * 90)).1.fdiv (fracF (a0 * 1) (a1 * 90)).2).fmod 4 = 0) (h : ¬ (fracF (a0 * 1 - 90 * ((fracF (a0 * 1) (a1 * 90)).1.fdiv (fracF (a0 * 1) (a1 * 90)).2) * a1) (a1 * 1)).1 = 0) (e : ((x, y), (z, v)) = quarterF (fracF (a0 * 1 - 90 * ((fracF (a0 * 1) (a1 * 90)).1.fdiv (fracF (a0 * 1) (a1 * 90)).2) * a1) (a1 * 1)).1 (fracF (a0 * 1 - 90 * ((fracF (a0 * 1) (a1 * 90)).1.fdiv (fracF (a0 * 1) (a1 * 90)).2) * a1) (a1 * 1)).2 b) : ((x, y), (z, v)) = turnF a0 a1 b := turn_k0 hk (base_go h e)
theorem turnA_k1 {a0 a1 b x y z v : Int} (hk : ((fracF (a0 * 1) (a1 * 90)).1.fdiv (fracF (a0 * 1) (a1 * 90)).2).fmod 4 = 1) (h : ¬ (fracF (a0 * 1 - 90 * ((fracF (a0 * 1) (a1 * 90)).1.fdiv (fracF (a0 * 1) (a1 * 90)).2) * a1) (a1 * 1)).1 = 0) (e : ((x, y), (z, v)) = quarterF (fracF (a0 * 1 - 90 * ((fracF (a0 * 1) (a1 * 90)).1.fdiv (fracF (a0 * 1) (a1 * 90)).2) * a1) (a1 * 1)).1 (fracF (a0 * 1 - 90 * ((fracF (a0 * 1) (a1 * 90)).1.fdiv (fracF (a0 * 1) (a1 * 90)).2) * a1) (a1 * 1)).2 b) : ((-z, v), (x, y)) = turnF a0 a1 b := turn_k1 hk (base_go h e)
theorem turnA_k2 {a0 a1 b x y z v : Int} (hk : ((fracF (a0 * 1) (a1 * 90)).1.fdiv (fracF (a0 * 1) (a1 * 90)).2).fmod 4 = 2) (h : ¬ (fracF (a0 * 1 - 90 * ((fracF (a0 * 1) (a1 * 90)).1.fdiv (fracF (a0 * 1) (a1 * 90)).2) * a1) (a1 * 1)).1 = 0) (e : ((x, y), (z, v)) = quarterF (fracF (a0 * 1 - 90 * ((fracF (a0 * 1) (a1 * 90)).1.fdiv (fracF (a0 * 1) (a1 * 90)).2) * a1) (a1 * 1)).1 (fracF (a0 * 1 - 90 * ((fracF (a0 * 1) (a1 * 90)).1.fdiv (fracF (a0 * 1) (a1 * 90)).2) * a1) (a1 * 1)).2 b) : ((-x, y), (-z, v)) = turnF a0 a1 b := turn_k2 hk (base_go h e)
theorem turnA_k3 {a0 a1 b x y z v : Int} (hk : ((fracF (a0 * 1) (a1 * 90)).1.fdiv (fracF (a0 * 1) (a1 * 90)).2).fmod 4 = 3) (h : ¬ (fracF (a0 * 1 - 90 * ((fracF (a0 * 1) (a1 * 90)).1.fdiv (fracF (a0 * 1) (a1 * 90)).2) * a1) (a1 * 1)).1 = 0) (e : ((x, y), (z, v)) = quarterF (fracF (a0 * 1 - 90 * ((fracF (a0 * 1) (a1 * 90)).1.fdiv (fracF (a0 * 1) (a1 * 90)).2) * a1) (a1 * 1)).1 (fracF (a0 * 1 - 90 * ((fracF (a0 * 1) (a1 * 90)).1.fdiv (fracF (a0 * 1) (a1 * 90)).2) * a1) (a1 * 1)).2 b) : ((- -z, v), (-x, y)) = turnF a0 a1 b := turn_k3 hk (base_go h e)
theorem turnB_k0 {a0 a1 b : Int} (hk : ((fracF (a0 * 1) (a1 * 90)).1.fdiv (fracF (a0 * 1) (a1 * 90)).2).fmod 4 = 0) (h : (fracF (a0 * 1 - 90 * ((fracF (a0 * 1) (a1 * 90)).1.fdiv (fracF (a0 * 1) (a1 * 90)).2) * a1) (a1 * 1)).1 = 0) : ((1, 1), (0, 1)) = turnF a0 a1 b := turn_k0 hk (base_no h)
theorem turnB_k1 {a0 a1 b : Int} (hk : ((fracF (a0 * 1) (a1 * 90)).1.fdiv (fracF (a0 * 1) (a1 * 90)).2).fmod 4 = 1) (h : (fracF (a0 * 1 - 90 * ((fracF (a0 * 1) (a1 * 90)).1.fdiv (fracF (a0 * 1) (a1 * 90)).2) * a1) (a1 * 1)).1 = 0) : ((-0, 1), (1, 1)) = turnF a0 a1 b := turn_k1 hk (base_no h)
theorem turnB_k2 {a0 a1 b : Int} (hk : ((fracF (a0 * 1) (a1 * 90)).1.fdiv (fracF (a0 * 1) (a1 * 90)).2).fmod 4 = 2) (h : (fracF (a0 * 1 - 90 * ((fracF (a0 * 1) (a1 * 90)).1.fdiv (fracF (a0 * 1) (a1 * 90)).2) * a1) (a1 * 1)).1 = 0) : ((-1, 1), (-0, 1)) = turnF a0 a1 b := turn_k2 hk (base_no h)
theorem turnB_k3 {a0 a1 b : Int} (hk : ((fracF (a0 * 1) (a1 * 90)).1.fdiv (fracF (a0 * 1) (a1 * 90)).2).fmod 4 = 3) (h : (fracF (a0 * 1 - 90 * ((fracF (a0 * 1) (a1 * 90)).1.fdiv (fracF (a0 * 1) (a1 * 90)).2) * a1) (a1 * 1)).1 = 0) : ((- -0, 1), (-1, 1)) = turnF a0 a1 b := turn_k3 hk (base_no h)
theorem turn_nz {a0 a1 b x y z v : Int} (e : ((x, y), (z, v)) = turnF a0 a1 b) (g : (turnF a0 a1 b).1.1 ≠ 0) (pv : 0 < v) : x ≠ 0 ∧ v * x ≠ 0 ∧ 0 < (fracF (z * y) (v * x)).2 := by
  rw [← e] at g
  have k := Int.mul_ne_zero (Int.ne_of_gt pv) g
  exact ⟨g, k, fracF_den k⟩
theorem tell_eq {a0 a1 b x y z v : Int} (e : ((x, y), (z, v)) = turnF a0 a1 b) : tellF (turnF a0 a1 b) = fracF (roundF (fracF ((fracF (z * y) (v * x)).1 * 65536) ((fracF (z * y) (v * x)).2 * 1)).1 (fracF ((fracF (z * y) (v * x)).1 * 65536) ((fracF (z * y) (v * x)).2 * 1)).2) 65536 := by
  rw [← e]; rfl
end
section
theorem tan_zero : (turnF 0 1 (65536 * 65536)).1.1 ≠ 0 := by decide +kernel
theorem tell_zero : tellF (turnF 0 1 (65536 * 65536)) = (0, 1) := by decide +kernel
noncomputable def tanF (x y : Int) : Int × Int := tellF (turnF x y (65536 * 65536))
abbrev RetA (h₀ : Heap) (L : Addr) (m : Str → Option Value) (news : List (Addr × Obj)) (s : Shared) (Q : Value → Shared → Prop) (x y z v : Int) : Prop :=
  ∀ (D C S : Addr) (c : Nat) (t1 u1 t2 u2 : Tok) (c1 c2 : Nat) (h' : Heap) (tk' : Nat), Fr h₀ L h' m → News h₀ L h' ((D, listOf #[.ref 67, .ref C, .ref S, .ref 67, .ref 66, .ref 66] c) :: (C, tup2 x y t1 u1 c1) :: (S, tup2 z v t2 u2 c2) :: news) → AllLt D news → AllLt C news → AllLt S news → Q (.ref D) { s with heap := h', toks := tk' }
theorem end_A {h₀ h' : Heap} {L D C S : Addr} {m : Str → Option Value} {news news' : List (Addr × Obj)} {s : Shared} {Q : Value → Shared → Prop} {x y z v x' y' z' v' : Int} {t1 u1 t2 u2 : Tok} {c c1 c2 : Nat} {tk' : Nat}
    (ret : RetA h₀ L m news s Q x y z v) (F : Fr h₀ L h' m) (N : News h₀ L h' news') (hm : (D, listOf #[.ref 67, .ref C, .ref S, .ref 67, .ref 66, .ref 66] c) ∈ news') (hm1 : (C, tup2 x' y' t1 u1 c1) ∈ news') (hm2 : (S, tup2 z' v' t2 u2 c2) ∈ news') (hs : ∀ p ∈ news, p ∈ news')
    (lt : AllLt D news) (ltC : AllLt C news) (ltS : AllLt S news) (ex : x' = x) (ey : y' = y) (ez : z' = z) (ev : v' = v) : Q (.ref D) { s with heap := h', toks := tk' } := by
  subst ex; subst ey; subst ez; subst ev
  refine ret D C S c t1 u1 t2 u2 c1 c2 h' tk' F (fun p hp => ?_) lt ltC ltS
  rcases List.mem_cons.mp hp with rfl | hp
  · exact N _ hm
  rcases List.mem_cons.mp hp with rfl | hp
  · exact N _ hm1
  rcases List.mem_cons.mp hp with rfl | hp
  · exact N _ hm2
  · exact N p (hs p hp)
theorem turn_zero {a0 a1 b x y z v : Int} (e : ((x, y), (z, v)) = turnF a0 a1 b) (g : (turnF a0 a1 b).1.1 = 0) : x = 0 := by
  rw [← e] at g
  exact g
theorem unrEndW_1 {h₀ : Heap} {L I : Addr} {it : Obj} {rest : (Str → Option Value) → List (Addr × Obj) → Prop} {s₁ : Shared} {h' : Heap} {tk : Nat} {m' : Str → Option Value} {p : Addr × Obj} {old : List (Addr × Obj)} (F : Fr h₀ L h' m') (N : News h₀ L h' (p :: (I, it) :: old))
    (o1 : p.1 ≠ I) (off : ∀ x ∈ old, x.1 ≠ I) (r : rest m' (p :: old)) : UnrEndW h₀ L s₁ [(I, it)] rest { s₁ with heap := h', toks := tk } := by
  refine ⟨h', tk, m', p :: old, rfl, F, ?_, ?_, r⟩
  · intro x hx
    rcases List.mem_append.mp hx with hx | hx
    · rw [List.mem_singleton.mp hx]; exact N _ (.tail _ (.head _))
    · rcases List.mem_cons.mp hx with rfl | hx
      · exact N _ (.head _)
      · exact N _ (.tail _ (.tail _ hx))
  · intro x hx q hq
    rw [List.mem_singleton.mp hq]
    rcases List.mem_cons.mp hx with rfl | hx
    · exact o1
    · exact off x hx
abbrev leftF (n : Int) : Int := if 360 - n < n then 360 - n else n
noncomputable def ltStep (o t b : Int) (p : Int × Int) : Int × Int := (o * b * b * p.1 - t * t * p.2, b * b * p.1)
/-- the tangent that the law tells -/
noncomputable def lawTanF (n : Int) : Int × Int :=
  if leftF n = n then
    (leftF n * 103993 * (ltStep 1 (leftF n * 103993) (720 * 33102) (ltStep 3 (leftF n * 103993) (720 * 33102) (ltStep 5 (leftF n * 103993) (720 * 33102) (ltStep 7 (leftF n * 103993) (720 * 33102) (ltStep 9 (leftF n * 103993) (720 * 33102) (11, 1)))))).2,
     720 * 33102 * (ltStep 1 (leftF n * 103993) (720 * 33102) (ltStep 3 (leftF n * 103993) (720 * 33102) (ltStep 5 (leftF n * 103993) (720 * 33102) (ltStep 7 (leftF n * 103993) (720 * 33102) (ltStep 9 (leftF n * 103993) (720 * 33102) (11, 1)))))).1)
  else
    (720 * 33102 * (ltStep 1 (leftF n * 103993) (720 * 33102) (ltStep 3 (leftF n * 103993) (720 * 33102) (ltStep 5 (leftF n * 103993) (720 * 33102) (ltStep 7 (leftF n * 103993) (720 * 33102) (ltStep 9 (leftF n * 103993) (720 * 33102) (11, 1)))))).1,
     leftF n * 103993 * (ltStep 1 (leftF n * 103993) (720 * 33102) (ltStep 3 (leftF n * 103993) (720 * 33102) (ltStep 5 (leftF n * 103993) (720 * 33102) (ltStep 7 (leftF n * 103993) (720 * 33102) (ltStep 9 (leftF n * 103993) (720 * 33102) (11, 1)))))).2)
theorem lawTanF_pos {n : Int} (h : leftF n = n) : lawTanF n = (leftF n * 103993 * (ltStep 1 (leftF n * 103993) (720 * 33102) (ltStep 3 (leftF n * 103993) (720 * 33102) (ltStep 5 (leftF n * 103993) (720 * 33102) (ltStep 7 (leftF n * 103993) (720 * 33102) (ltStep 9 (leftF n * 103993) (720 * 33102) (11, 1)))))).2,
     720 * 33102 * (ltStep 1 (leftF n * 103993) (720 * 33102) (ltStep 3 (leftF n * 103993) (720 * 33102) (ltStep 5 (leftF n * 103993) (720 * 33102) (ltStep 7 (leftF n * 103993) (720 * 33102) (ltStep 9 (leftF n * 103993) (720 * 33102) (11, 1)))))).1) := if_pos h
theorem lawTanF_neg {n : Int} (h : ¬ leftF n = n) : lawTanF n = (720 * 33102 * (ltStep 1 (leftF n * 103993) (720 * 33102) (ltStep 3 (leftF n * 103993) (720 * 33102) (ltStep 5 (leftF n * 103993) (720 * 33102) (ltStep 7 (leftF n * 103993) (720 * 33102) (ltStep 9 (leftF n * 103993) (720 * 33102) (11, 1)))))).1,
     leftF n * 103993 * (ltStep 1 (leftF n * 103993) (720 * 33102) (ltStep 3 (leftF n * 103993) (720 * 33102) (ltStep 5 (leftF n * 103993) (720 * 33102) (ltStep 7 (leftF n * 103993) (720 * 33102) (ltStep 9 (leftF n * 103993) (720 * 33102) (11, 1)))))).2) := if_neg h
noncomputable def tanBits : Nat → Bool
  | 0 => true
  | n + 1 => decide ((lawTanF n).1.natAbs < 2 ^ 500 ∧ (lawTanF n).2.natAbs < 2 ^ 500) && tanBits n
theorem tanBits_at : ∀ (k : Nat), tanBits k = true → ∀ n, n < k → (lawTanF n).1.natAbs < 2 ^ 500 ∧ (lawTanF n).2.natAbs < 2 ^ 500
  | 0, _, n, h => absurd h (Nat.not_lt_zero n)
  | k + 1, e, n, h => by
    unfold tanBits at e
    rw [Bool.and_eq_true, decide_eq_true_eq] at e
    rcases Nat.lt_or_ge n k with q | q
    · exact tanBits_at k e.2 n q
    · rw [show n = k by omega]; exact e.1
theorem bits_lawTan {n : Int} (h0 : 0 ≤ n) (h1 : n ≤ 360) : intBits (lawTanF n).1 ≤ 500 ∧ intBits (lawTanF n).2 ≤ 500 := by
  have h := tanBits_at 361 (by decide +kernel) n.toNat (by omega)
  rw [show ((n.toNat : Nat) : Int) = n by omega] at h
  exact ⟨intBits_le_iff.mpr h.1, intBits_le_iff.mpr h.2⟩
/-- one draw of the law's -/
abbrev RetK (h₀ : Heap) (L : Addr) (m : Str → Option Value) (rest : List (Addr × Obj)) (S : Addr) (s : Shared) (Q : Value → Shared → Prop) (top : Int) : Prop :=
  ∀ (r x y : Int) (k t u : Tok) (c : Nat) (h' : Heap) (tk' : Nat), 0 ≤ r → r < top → 0 ≤ x → intBits y ≤ 64 → Fr h₀ L h' m → News h₀ L h' ((S, listOf #[.int x t, .int y u] c) :: rest) → Q (.int r k) { s with heap := h', toks := tk' }
theorem take_1 {x top : Int} (gt : 0 < top) (hx : 0 < x) : 0 ≤ x.fmod top ∧ x.fmod top < top ∧ 0 ≤ x.fdiv top := by
  have f := (fdiv_fmod_facts x top).2.2.1 gt
  rw [Int.fdiv_eq_ediv_of_nonneg _ (Int.le_of_lt gt)]
  exact ⟨f.1, f.2, Int.ediv_nonneg (Int.le_of_lt hx) (Int.le_of_lt gt)⟩
theorem take_2 {x top : Int} (gt : 0 < top) : 0 ≤ x.fmod top ∧ x.fmod top < top := (fdiv_fmod_facts x top).2.2.1 gt
theorem take_3 {x : Int} : intBits (x.fmod 2147483647) ≤ 64 := by
  have f := (fdiv_fmod_facts x 2147483647).2.2.1 (by decide)
  exact intBits_le_64 (by omega) (by omega)
abbrev RetTV (h₀ : Heap) (L : Addr) (m : Str → Option Value) (news : List (Addr × Obj)) (s : Shared) (Q : Value → Shared → Prop) (V : Int × Int) : Prop :=
  ∀ (x y : Int) (D : Addr) (t u : Tok) (c : Nat) (h' : Heap) (tk' : Nat), (x, y) = V → intBits x ≤ 500 → intBits y ≤ 500 → Fr h₀ L h' m → News h₀ L h' ((D, tup2 x y t u c) :: news) → AllLt D news → Q (.ref D) { s with heap := h', toks := tk' }
theorem RetTV.to {h₀ : Heap} {L : Addr} {m : Str → Option Value} {news : List (Addr × Obj)} {s : Shared} {Q : Value → Shared → Prop} {V : Int × Int} (r : RetTV h₀ L m news s Q V) (b1 : intBits V.1 ≤ 500) (b2 : intBits V.2 ≤ 500) : RetT h₀ L m news s Q V.1 V.2 :=
  fun D t u c h' tk' F N l => r V.1 V.2 D t u c h' tk' rfl b1 b2 F N l
noncomputable def topF (q x : Int) : Int := if q < 0 then 0 - x else x
abbrev absF (x : Int) : Int := if x < 0 then -x else x
def nearP (t0 t1 q x y : Int) : Prop := ¬ t1 * y < absF (t0 * y - topF q x * t1) * 65536
theorem near_neg {t0 t1 q x y : Int} (h : nearP t0 t1 q x y) (hq : q < 0) : ¬ t1 * y < (if t0 * y - (0 - x) * t1 < 0 then -(t0 * y - (0 - x) * t1) else t0 * y - (0 - x) * t1) * 65536 := by
  unfold nearP topF at h
  rw [if_pos hq] at h
  exact h
theorem near_pos {t0 t1 q x y : Int} (h : nearP t0 t1 q x y) (hq : ¬ q < 0) : ¬ t1 * y < (if t0 * y - x * t1 < 0 then -(t0 * y - x * t1) else t0 * y - x * t1) * 65536 := by
  unfold nearP topF at h
  rw [if_neg hq] at h
  exact h
theorem near_negD {t0 t1 q x y : Int} (h : nearP t0 t1 q x y) (hq : q < 0) : ¬ decide (t1 * y < (if t0 * y - (0 - x) * t1 < 0 then -(t0 * y - (0 - x) * t1) else t0 * y - (0 - x) * t1) * 65536) = true := by
  rw [decide_eq_true_eq]; exact near_neg h hq
theorem near_posD {t0 t1 q x y : Int} (h : nearP t0 t1 q x y) (hq : ¬ q < 0) : ¬ decide (t1 * y < (if t0 * y - x * t1 < 0 then -(t0 * y - x * t1) else t0 * y - x * t1) * 65536) = true := by
  rw [decide_eq_true_eq]; exact near_pos h hq
theorem gt_no {prog : Program} {w : World} {A : Around} {E : Value → Shared → Prop} {s : Shared} {a b : Int} {t u : Tok} {Q : Value → Shared → Prop} (hn : ¬ b < a) (h : Q (.bool false) s) :
    wpAny (model prog w) A (compareOp .Gt (.int a t) (.int b u)) Q E s := gt_int (by rw [show decide (a > b) = false from decide_eq_false hn]; exact h)
end
section
theorem TupIn.reads {h₀ h : Heap} {L A : Addr} {m : Str → Option Value} {news news' : List (Addr × Obj)} {x y : Int} (T : TupIn h₀ news A x y) (F : Fr h₀ L h m) (N : News h₀ L h news') (hs : ∀ p ∈ news, p ∈ news') : Reads h (.ref A) (.tuple [.int x, .int y]) [] := by
  obtain ⟨t, u, c, e | e⟩ := T
  · exact reads_tuple_at (N _ (hs _ e)).1 rfl rfl (readsAll_cons_val (Reads.int _ _) (readsAll_cons_val (Reads.int _ _) ReadsAll.nil))
  · exact reads_tuple_at (F.keep _ _ e) rfl rfl (readsAll_cons_val (Reads.int _ _) (readsAll_cons_val (Reads.int _ _) ReadsAll.nil))
theorem eq_tups {prog : Program} {w : World} {A : Around} {E : Value → Shared → Prop} {s : Shared} {a b : Addr} {x y z v : Int} {as bs : List Addr} {Q : Value → Shared → Prop}
    (ra : Reads s.heap (.ref a) (.tuple [.int x, .int y]) as) (rb : Reads s.heap (.ref b) (.tuple [.int z, .int v]) bs) (hu : A.units + 64 < cLine) (h : Q (.bool (decide (x = z) && decide (y = v))) s) :
    wpAny (model prog w) A (compareOp .Eq (.ref a) (.ref b)) Q E s :=
  eq_dataH ra rb rfl rfl hu (by
    have e : PyData.eqv (.tuple [.int x, .int y]) (.tuple [.int z, .int v]) = (decide (x = z) && decide (y = v)) := by
      simp only [PyData.eqv, PyData.eqvAll, Bool.and_true]
      by_cases h1 : x = z <;> by_cases h2 : y = v <;> simp [h1, h2]
    rw [e]; exact h)
abbrev RetB (h₀ : Heap) (L : Addr) (m : Str → Option Value) (news : List (Addr × Obj)) (s : Shared) (Q : Value → Shared → Prop) : Prop :=
  ∀ (h' : Heap) (tk' : Nat), Fr h₀ L h' m → News h₀ L h' news → Q (.bool true) { s with heap := h', toks := tk' }
theorem end_B {h₀ h' : Heap} {L : Addr} {m : Str → Option Value} {news news' : List (Addr × Obj)} {s : Shared} {Q : Value → Shared → Prop} {b : Bool} {tk' : Nat}
    (ret : RetB h₀ L m news s Q) (F : Fr h₀ L h' m) (N : News h₀ L h' news') (hs : ∀ p ∈ news, p ∈ news') (e : b = true) : Q (.bool b) { s with heap := h', toks := tk' } := by
  subst e
  exact ret h' tk' F (fun p hp => N p (hs p hp))
theorem near_in {q : Int} {b : Bool} (h : ([0, 180].any fun x => x == if q < 0 then -q else q) = b) (e : b = true) : absF q = 0 ∨ absF q = 180 := by
  subst e
  simp only [List.any_cons, List.any_nil, Bool.or_false, Bool.or_eq_true, beq_iff_eq] at h
  rcases h with h | h
  · exact .inl h.symm
  · exact .inr h.symm
theorem tup_reads_at {h₀ h : Heap} {L A : Addr} {news : List (Addr × Obj)} {x y : Int} {t u : Tok} {c : Nat} (N : News h₀ L h news) (hm : (A, tup2 x y t u c) ∈ news) : Reads h (.ref A) (.tuple [.int x, .int y]) [] :=
  reads_tuple_at (N _ hm).1 rfl rfl (readsAll_cons_val (Reads.int _ _) (readsAll_cons_val (Reads.int _ _) ReadsAll.nil))
end
section
section
open Builtin Builtin.ObjectAttr
variable {prog : Program} {w : World} {A : Around} {E : Value → Shared → Prop} {s : Shared} {K : Frag} {x C : Addr} {ox : Obj} {od : Option Obj} {name : Str} {expr : Bool}
theorem x_get {v : Value} {Q : Value → Shared → Prop} (X : K.In s.heap) (I : InstAt s.heap x ox C od) (hga : findIn K (.ref C) "__getattribute__" = some (some (.builtin "BaseException.__getattribute__"))) (hgb : findIn K (.ref C) "__getattr__" = some none)
    (hsub : mroIn K C (.type "BaseException") = some true) (hf : findObj K C od name = some (.value v)) (hh : handedIn v = true) (h : Q v { s with toks := s.toks + 1 }) : wpAny (model prog w) A (getAttr (.ref x) name expr) Q E s := by
  obtain ⟨hh', g, d, t, os⟩ := s
  have L0 := I.type (M := model prog w)
  have L1 := looks_findIn (M := model prog w) X hga
  have L4 := looks_findIn (M := model prog w) X hgb
  have L2 := looks_find (M := model prog w) X I hf
  have L3 : Looks (model prog w) hh' (isInstance (.ref x) (.type "BaseException")) true := L0.andThen (looks_mroIn X hsub)
  have GA := PySem.F.attr_Exception.ga
  have fb := GA.bind (.ref x)
  have hx0 : (expr && onTheHeap (Value.builtin "BaseException.__getattribute__")) = false := by cases expr <;> rfl
  have hx2 : (Value.builtin "BaseException.__getattribute__" == Value.builtin "object.__getattribute__") = false := by decide +kernel
  have hx1 : (onTheHeap (Value.ref C) && Value.builtin "BaseException.__getattribute__" == Value.builtin "object.__getattribute__") = false := by rw [hx2]; rfl
  have core : ∀ (A' : Around) (R : Result → Shared → Prop) tk os', R (.ok (.ret v)) ⟨hh', g, d, tk, os'⟩ → codeAny (model prog w) A' (.call (.builtin "BaseException.__getattribute__") ⟨[.ref x, .str name t], []⟩) R ⟨hh', g, d, tk, os'⟩ := by
    intro A' R tk os' hq
    refine codeAny_call_builtin GA.plain PySem.F.entry_bexc_ga ?_
    refine @check_slot (model prog w) _ _ ⟨hh', g, d, tk, os'⟩ "BaseException.__getattribute__" "BaseException" "__getattribute__" (.ref x) [.str name t] [] _ (by decide +kernel) (by decide +kernel) L3 (PySem.F.args_bexc_ga _ _) ?_
    refine wpAny_bind (wpAny_pure (wpAny_bind (wpAny_pure (wpAny_bind (L0.at (wpAny_bind (L2.at ?_)))))))
    exact wpAny_pure hq
  unfold getAttr getAttrBy
  refine wpAny_bind (wpAny_mkText (wpAny_holding (wpAny_bind (L0.at (wpAny_bind (L1.at ?_))))))
  dsimp only
  rw [hx1]
  show wpAny _ _ (getAttrByItsOwn _ _ _ _ _ _) _ _ _
  unfold getAttrByItsOwn
  refine wpAny_bind (L4.at (wpAny_bind (wpAny_attempt (wpAny_holding ?_))))
  unfold callGetattribute
  rw [hx0]
  show wpAny _ _ (boundAndCalled _ _ _) _ _ _
  unfold boundAndCalled
  rw [fb]
  refine wpAny_bind (wpAny_pure (wpAny_call (core _ _ _ _ ?_)))
  show wpAny _ _ (handedOut v) _ _ _
  rw [handedOut_of hh]; exact wpAny_pure h
noncomputable def excOnly : List Value → Bool
  | [.type a, .type b, .type c] => a == "Exception" && b == "BaseException" && c == "object"
  | .ref _ :: r => excOnly r
  | _ => false
theorem excOnly_passes (self : Value) : ∀ {l : List Value}, excOnly l = true → refuseLoop self "__setattr__" l = pure ()
  | [.type a, .type b, .type c], e => by
    simp only [excOnly, Bool.and_eq_true, beq_iff_eq] at e
    obtain ⟨⟨rfl, rfl⟩, rfl⟩ := e
    exact PySem.F.store_Exception.passes self
  | .ref c :: r, e => by rw [refuseLoop_ref]; exact excOnly_passes self (l := r) (by cases r <;> first | exact e | cases e)
theorem excOnly_has : ∀ {l : List Value}, excOnly l = true → l.contains (.type "object") = true
  | [.type a, .type b, .type c], e => by
    simp only [excOnly, Bool.and_eq_true, beq_iff_eq] at e
    obtain ⟨⟨rfl, rfl⟩, rfl⟩ := e
    simp
  | .ref c :: r, e => by rw [List.contains_cons, excOnly_has (l := r) (by cases r <;> first | exact e | cases e), Bool.or_true]
theorem news_swap {h₀ h : Heap} {L : Addr} {p q : Addr × Obj} {post : List (Addr × Obj)} (N : News h₀ L h ([] ++ p :: q :: post)) : News h₀ L h (q :: p :: post) := by
  intro r hr
  refine N r ?_
  rcases List.mem_cons.mp hr with rfl | hr
  · exact .tail _ (.head _)
  rcases List.mem_cons.mp hr with rfl | hr
  · exact .head _
  · exact .tail _ (.tail _ hr)
theorem x_set {h₀ : Heap} {L : Addr} {m : Str → Option Value} {post : List (Addr × Obj)} {vs : Array Value} {v : Value} {cd : ClassData} {Q : Unit → Shared → Prop} (F : Fr h₀ L s.heap m) (X₀ : K.In h₀) (N : News h₀ L s.heap ((x, ⟨.ref C, none, .fields vs, #[]⟩) :: post))
    (off : ∀ p ∈ post, p.1 ≠ x) (hs : findIn K (.ref C) "__setattr__" = some (some (.builtin "object.__setattr__"))) (hcd : clsIn K C = some cd) (hm : excOnly cd.mro = true) (hdi : cd.hasDict = true) (ht : takerIn K C name = some none)
    (h : ∀ dx hsh tk h' tk', Fr h₀ L h' m → News h₀ L h' ((x, ⟨.ref C, some dx, .fields vs, #[]⟩) :: (dx, dictOf [⟨hsh, .str name tk, v⟩] 1) :: post) → (∀ p ∈ post, p.1 < dx) → x < dx → Q () { s with heap := h', toks := tk' }) :
    wpAny (model prog w) A (setAttr (.ref x) name v) Q E s := by
  have X := X₀.keeps F.keep
  have hx := (N _ (.head _)).1
  have I : InstAt s.heap x ⟨.ref C, none, .fields vs, #[]⟩ C none := ⟨hx, rfl, rfl, trivial⟩
  refine set_plain X I hs ?_
  obtain ⟨hh, g, d, t, os⟩ := s
  have ne : cd.mro.isEmpty = false := by cases q : cd.mro with | nil => rw [q] at hm; cases hm | cons _ _ => rfl
  have sub : Looks (model prog w) hh (isInstance (.ref x) (.type "object")) true := I.type.andThen (looks_mroIn X (by unfold mroIn; rw [hcd, Option.bind_some, if_neg (by rw [ne]; decide), excOnly_has hm]))
  have SF := PySem.F.store_object
  refine codeAny_call_builtin SF.slot.plain SF.entry (@check_slot (model prog w) _ _ _ "object.__setattr__" "object" "__setattr__" (.ref x) [.str name t, v] [] _ SF.kind SF.split sub (SF.args (.ref x) (.str name t) v) ?_)
  obtain ⟨attr, ha, hr⟩ := Option.bind_eq_some_iff.mp ht
  have hmro : Looks (model prog w) hh (mroOf (.ref C)) cd.mro := (looks_clsIn X hcd).andThen .now
  have L3 : Looks (model prog w) hh (storeTaker? attr) none := by
    cases attr with
    | none => exact .now
    | some a =>
      obtain ⟨b, hb, hb'⟩ := Option.map_eq_some_iff.mp hr
      refine (looks_takesIn X hb).andThen ?_
      cases b
      · exact .now
      · cases hb'
  rw [osa_eq, refuse_eq]
  refine wpAny_bind (wpAny_bind (I.type.at (wpAny_bind (hmro.at ?_))))
  rw [excOnly_passes _ hm]
  refine wpAny_pure (wpAny_bind (I.type.at (wpAny_bind ((looks_findIn X ha).at (wpAny_bind (L3.at ?_))))))
  show wpAny _ _ (storeInOwnDict _ _ _ _ _ _) _ _ _
  refine wpAny_bind (wpAny_pure (wpAny_bind (wpAny_bind (wpAny_loadPart hx (wpAny_bind ((looks_clsIn X hcd).at ?_))))))
  rw [hdi]
  dsimp only
  have hxs : x ≠ hh.objs.size := Nat.ne_of_lt (Heap.lt_size hx)
  have lt0 : ∀ p ∈ post, p.1 < hh.objs.size := fun p hp => Heap.lt_size (N p (.tail _ hp)).1
  have N1 := N.push F emptyDict
  have F1 := F.push emptyDict
  have hx1 := (N1 _ (.tail _ (.head _))).1
  obtain ⟨F2, N2⟩ := news_upd (pre := [(hh.objs.size, emptyDict)]) (d := x) (o := ⟨.ref C, none, .fields vs, #[]⟩) (o' := ⟨.ref C, some hh.objs.size, .fields vs, #[]⟩) (f := fun o => { cls := o.cls, dict := some hh.objs.size, data := o.data, slots := o.slots }) F1 N1
    (fun p hp => by rw [List.mem_singleton.mp hp]; exact Ne.symm hxs) off rfl rfl
  have N2' : News h₀ L _ ([] ++ (hh.objs.size, emptyDict) :: (x, ⟨.ref C, some hh.objs.size, .fields vs, #[]⟩) :: post) := N2
  obtain ⟨F3, N3⟩ := news_upd (pre := []) (f := Obj.putName name (PyData.keyHash w.params name) (.str name (t + 1)) v) F2 N2' (fun p hp => nomatch hp) (fun p hp => by
    rcases List.mem_cons.mp hp with rfl | hp
    · exact hxs
    · exact Nat.ne_of_lt (lt0 p hp)) (putName_dict name (PyData.keyHash w.params name) (.str name (t + 1)) v [] 0) rfl
  have D := (N2 (hh.objs.size, emptyDict) (.head _)).1
  have D' := (N3 _ (.head _)).1
  show wpAny _ _ (alloc emptyDict >>= fun d => update x _ >>= fun _ => dictMade (.ref C) x d) _ _ _
  refine wpAny_bind (wpAny_alloc' (wpAny_bind (wpAny_update' hx1 (wpAny_pure ?_))))
  show wpAny _ _ (storeInDict hh.objs.size (.str name t) name v) _ _ _
  unfold storeInDict newKeyGuard
  refine wpAny_bind (wpAny_pure (wpAny_bind ?_))
  unfold nsSet
  refine wpAny_bind (wpAny_bind (wpAny_askSetting (wpAny_pure (wpAny_bind (wpAny_mkText (wpAny_bind (wpAny_loadPart D ?_)))))))
  dsimp only
  rw [aRefKeyMayBeTheName_at, show (!(#[] : Array DictEntry).any (·.key.isStr name) && (#[] : Array DictEntry).any (·.refKey)) = false from by simp]
  refine wpAny_updatePart D ?_
  refine wpAny_bind (wpAny_lookBehind D' (pastItsLine_dict (by show 1 ≤ _; rw [sizeLine_eq]; omega)) ?_)
  refine wpAny_pure ?_
  have N4 := news_swap N3
  exact h hh.objs.size (PyData.keyHash w.params name) (t + 1) _ _ F3 N4 lt0 (Heap.lt_size hx)
end
abbrev excObj (C t : Addr) (dx : Option Addr) : Obj := ⟨.ref C, dx, .fields #[.ref t, .none, .none, .none, .bool false, .none], #[]⟩
abbrev tupN (vs : List Value) : Obj := { cls := .type "tuple", data := .seq vs.toArray }
section
open Builtin Builtin.ObjectAttr
variable {prog : Program} {w : World} {A : Around} {R : Result → Shared → Prop} {K : Frag} {C N fI : Addr} {nm q : Str} {bs bm : List Value} {hdct : Bool} {sn : List Str} {sub : List Value} {ab : Bool} {col : Option Bool} {dd : Option Addr} {k0 k1 k2 k3 k5 : Option Value}
theorem x_new {h : Heap} {g : Array GenState} {d : Drawn} {t : Nat} {os : OsState} {rest : List Value} (hC : h.get? C = some (excClassObj nm q C N bs bm hdct sn sub ab col dd k0 k1 k2 k3 k5 "Exception.__new__"))
    (hcE : (Value.ref C :: bm).contains (.type "Exception") = true) (hcA : (Value.ref C :: bm).contains (.type "AttributeError") = false) (hcN : (Value.ref C :: bm).contains (.type "NameError") = false) (hrest : rest.length ≤ sizeLine)
    (hq : R (.ok (.ret (.ref (h.objs.size + 1)))) ⟨(h.push (tupN rest)).push (excObj C h.objs.size none), g, d, t, os⟩) :
    codeAny (model prog w) A (.call (.builtin "Exception.__new__") ⟨.ref C :: rest, []⟩) R ⟨h, g, d, t, os⟩ := by
  have F := PySem.F.excBase_Exception
  have hstar := F.noStar
  have hends := F.ends
  refine codeAny_call_builtin_code (Code.quiet_builtin _ F.quiet) ?_
  simp only [checkBuiltinCall, F.newKind, F.newSplit, F.newRow]
  repeat (first | refine wpAny_loadPart_at hC ?_ | (refine wpAny_isSubtype_exc hC ?_; rw [hcE]) | refine wpAny_staticBase_exc hC ?_ | refine wpAny_madeBy_exc hC ?_ | simp only [bne_self_eq_false, Bool.false_eq_true, if_false] | wp_step)
  refine codeAny_builtinAt F.entry ?_
  unfold Builtin.«BaseException.__new__»
  refine PySem.wpAt_bind ?_
  show PySem.wpAt _ _ _ (stack >>= _) _ _ _
  refine PySem.wpAt_bind (PySem.wpAt_stack fun p below => PySem.wpAt_of_wpAny ?_)
  wp_walk
  refine PySem.wpAt_of_wpAny ?_
  rw [F.owner]
  repeat (first | with_reducible refine wpAny_madeHere_exc F.canon hC ?_ | with_reducible refine wpAny_loadPart_at hC ?_ | (with_reducible refine wpAny_isSubtype_exc hC ?_; first | rw [hcE] | rw [hcA] | rw [hcN]) | wp_step)
  show R _ _
  rw [Heap.size_push]
  exact hq
theorem x_make {s : Shared} {h₀ : Heap} {L : Addr} {m : Str → Option Value} {news : List (Addr × Obj)} {rest : List Value} (F : Fr h₀ L s.heap m) (NN : News h₀ L s.heap news) (X₀ : K.In h₀)
    (hl : K.lookup C = some (excClassObj nm q C N bs bm hdct sn sub ab col dd k0 k1 k2 k3 k5 "Exception.__new__"))
    (hcE : (Value.ref C :: bm).contains (.type "Exception") = true) (hcA : (Value.ref C :: bm).contains (.type "AttributeError") = false) (hcN : (Value.ref C :: bm).contains (.type "NameError") = false) (hrest : rest.length ≤ sizeLine)
    (hi : findIn K (.ref C) "__init__" = some (some (.ref fI))) (hf : typeIn K (.ref fI) = some (.type "function"))
    (h : ∀ e t h', Fr h₀ L h' m → News h₀ L h' ((e, excObj C t none) :: (t, tupN rest) :: news) → (∀ p ∈ news, p.1 < t) → t < e →
      codeAny (model prog w) (A.under (.builtin "type.__call__" ⟨.ref C :: rest, []⟩)) (.call (.ref fI) ⟨.ref e :: rest, []⟩) (InitBack e R) { s with heap := h' }) :
    codeAny (model prog w) A (.call (.ref C) ⟨rest, []⟩) R s := by
  obtain ⟨hh, g, d, t, os⟩ := s
  have X : K.In hh := X₀.keeps F.keep
  have hC := X _ _ hl
  have hi' := looks_findIn (M := model prog w) X hi
  have f1 := tc_lookup
  have f2 := tc_bind (.ref C)
  have hT : (⟨hh, g, d, t, os⟩ : Shared).TypeIs (.ref C) "type" := ⟨_, hC, rfl⟩
  refine codeAny_of_tree ?_
  show wpAny _ _ (callAny (.ref C) _) _ _ _
  repeat (any_goals (first | assumption | with_reducible refine wpAny_loadPart_at hC ?_ | wp_step))
  refine ⟨rfl, ?_⟩
  refine codeAny_call_builtin_at (Code.quiet_builtin _ (by decide +kernel)) entry_typeCall (wpAny_check_type_call_sub hC ?_)
  show wpAny _ _ (Builtin.«type.__call__» ⟨.ref C :: rest, []⟩) _ _ _
  repeat (first | with_reducible refine wpAny_loadPart_at hC ?_ | with_reducible refine wpAny_madeBy_exc hC ?_ | wp_step)
  refine x_new hC hcE hcA hcN hrest ?_
  show wpAny _ _ _ _ _ _
  have k : ∀ b o, hh.get? b = some o → ((hh.push (tupN rest)).push (excObj C hh.objs.size none)).get? b = some o := fun b o e => Heap.get?_push_of_some _ (Heap.get?_push_of_some _ e)
  have hC₁ := k _ _ hC
  have hget : ((hh.push (tupN rest)).push (excObj C hh.objs.size none)).get? (hh.objs.size + 1) = some (excObj C hh.objs.size none) := by heap_get
  have hcC : (Value.ref C :: bm).contains (.ref C) = true := by simp
  have i1 := hi'.keeps k
  have b1 := (bind_fn (M := model prog w) X (.ref (hh.objs.size + 1)) hf).keeps k
  unfold isInstance
  repeat (first | with_reducible refine wpAny_loadPart_at hget ?_ | (with_reducible refine wpAny_isSubtype_exc hC₁ ?_; rw [hcC]) | wp_step)
  show wpAny _ _ (typeLookup (.ref C) _) _ _ _
  refine i1.at ?_
  refine wpAny_holding (wpAny_bind (b1.at ?_))
  have N1 := (NN.push F (tupN rest)).push (F.push _) (excObj C hh.objs.size none)
  rw [Heap.size_push] at N1
  refine wpAny_bind (wpAny_call (codeAny_mono (h _ hh.objs.size _ ((F.push _).push _) N1 (fun p hp => Heap.lt_size (NN p hp).1) (Nat.lt_succ_self _)) fun r s' z => ?_))
  rcases r with e | (v | _ | _ | _) <;> first | exact z | exact z.elim | skip
  obtain ⟨rfl, z⟩ := z
  exact wpAny_pure (wpAny_pure z)
end
end
section
abbrev excAt (C t : Addr) (tb ctx : Value) (dx : Option Addr) : Obj := ⟨.ref C, dx, .fields #[.ref t, tb, ctx, .none, .bool false, .none], #[]⟩
/-- an exception object on its way, with its dict -/
def FlyB (B h : Heap) (l : List Env) (e C t : Addr) (ctx : Value) (dx : Addr) (fl : Value) : Prop :=
  B.StaysIn h ∧ B.get? e = none ∧ h.FunFrames B l ∧ ∃ T oT ts, h.get? e = some (excAt C t (.ref T) ctx (some dx)) ∧ B.get? T = none ∧ T ≠ e ∧ h.get? T = some oT ∧ oT.data = .fields ts ∧ ts[3]? = some fl
theorem FlyB.pop {B h : Heap} {env : Env} {l : List Env} {e C t : Addr} {ctx : Value} {dx : Addr} {fl : Value} (x : FlyB B h (env :: l) e C t ctx dx fl) : FlyB B h l e C t ctx dx fl :=
  let ⟨a, b, ⟨_, _, c⟩, d⟩ := x; ⟨a, b, c, d⟩
section
variable {M : Model} {A : Around} {E : Value → Shared → Prop} {s : Shared} {B : Heap} {env : Env} {outer l : List Env} {L e C t : Addr} {tb ctx fl : Value} {dx : Addr} {Q : Unit → Shared → Prop}
theorem x_entry {head : Value} {hadNext : Bool} (hfr : A.frames = some (env :: outer)) (hl : s.heap.FunFrames B (env :: outer)) (hf : env.frame = some L) (he : s.heap.get? e = some (excAt C t tb ctx (some dx))) (hkb : B.StaysIn s.heap) (hen : B.get? e = none)
    (h : ∀ h', FlyB B h' (env :: outer) e C t ctx dx (rawInt L) → s.heap.UpToSlots h' → Q () { s with heap := h' }) :
    wpAny M A (do let a ← frameOf env; let pl ← entryPlaceOf L hadNext; let b ← EntryCells.newEntry head a .none (rawInt L) .none pl; setField (.ref e) 1 b) Q E s := by
  have hene : e ∉ (env :: outer).filterMap (·.frame) := fun hm => by
    obtain ⟨_, o, ho, hnf⟩ := hl.mem hm
    rw [he] at ho; cases ho; exact hnf _ rfl
  refine wpAny_bind (wpAny_frameOf_fun hfr hl hf fun h₁ hs₁ => ?_)
  refine wpAny_bind (wpAny_entryPlaceOf fun pl hpl => ?_)
  unfold EntryCells.newEntry newFields
  refine wpAny_bind (wpAny_newObj_type ?_ (hpl.sizeOk5 _ _ _ _ _))
  have he₁ : h₁.get? e = some (excAt C t tb ctx (some dx)) := (hs₁.2.1 e hene).trans he
  have kb₁ : B.StaysIn h₁ := fun b o hbo => (hs₁.2.1 b fun hm => by rw [(hl.mem hm).1] at hbo; cases hbo).trans (hkb b o hbo)
  generalize hT : ({ cls := .type "traceback", dict := none, data := .fields ([head, .ref L, .none, rawInt L, .none] ++ (if pl.isEmpty then List.replicate 6 Value.none else pl)).toArray } : Obj) = oT
  have he₂ := Heap.get?_push_of_some (h := h₁) oT he₁
  refine wpAny_setField he₂ rfl (by simp) ?_
  have hTe : h₁.objs.size ≠ e := Nat.ne_of_gt (Heap.lt_size he₁)
  have he₃ := Heap.get?_update_self (Obj.mapFields (·.setIfInBounds 1 (Value.ref h₁.objs.size))) he₂ rfl
  have hT₃ : ((h₁.push oT).update e (Obj.mapFields (·.setIfInBounds 1 (Value.ref h₁.objs.size)))).get? h₁.objs.size = some oT :=
    (Heap.get?_update_other _ _ (Ne.symm hTe)).trans (Heap.get?_push_size h₁ (by rw [← hT]; rfl))
  have keep : ∀ b o, b ≠ e → h₁.get? b = some o → ((h₁.push oT).update e (Obj.mapFields (·.setIfInBounds 1 (Value.ref h₁.objs.size)))).get? b = some o := fun b o hbe hb => by
    rw [Heap.get?_update_other _ _ (Ne.symm hbe)]
    exact Heap.get?_push_of_some _ hb
  have noRecord : ∀ b o, s.heap.get? b = some o → (∀ vs, o.data ≠ .fields vs) → b ≠ e := fun b o hb hnf q => by
    rw [q, he] at hb; cases hb; exact hnf _ rfl
  refine h _ ⟨fun b o hbo => keep b o (fun q => by rw [q, hen] at hbo; cases hbo) (kb₁ b o hbo), hen, hl.of_keeps fun b o hb hnf => ?_, h₁.objs.size, oT, _, he₃, kb₁.fresh, hTe, hT₃, by rw [← hT], ?_⟩ fun b o hb hnf => ?_
  · obtain ⟨sl, hs⟩ := hs₁.2.2 b o hb
    exact ⟨_, keep b _ (noRecord b o hb hnf) hs, rfl⟩
  · first | (simp; done) | (rcases hpl with rfl | ⟨_, _, _, _, _, _, _, rfl⟩ <;> simp)
  · obtain ⟨sl, hs⟩ := hs₁.2.2 b o hb
    exact ⟨sl, keep b _ (noRecord b o hb hnf) hs⟩
theorem x_note0 (hfr : A.frames = some (env :: outer)) (hl : s.heap.FunFrames B (env :: outer)) (hf : env.frame = some L) (he : s.heap.get? e = some (excAt C t .none ctx (some dx))) (hkb : B.StaysIn s.heap) (hen : B.get? e = none)
    (h : ∀ h', FlyB B h' (env :: outer) e C t ctx dx (rawInt L) → s.heap.UpToSlots h' → Q () { s with heap := h' }) : wpAny M A (noteFrame (.ref e) env) Q E s := by
  unfold noteFrame
  simp only [hf]
  refine wpAny_bind (wpAny_field (x := .none) he rfl rfl ?_)
  rw [if_neg (by decide)]
  exact x_entry hfr hl hf he hkb hen h
theorem x_flight {fl' : Option Addr} (x : FlyB B s.heap l e C t ctx dx fl) (h : ∀ h', FlyB B h' l e C t ctx dx (fl'.elim .none fun f => rawInt f) → s.heap.UpToSlots h' → Q () { s with heap := h' }) : wpAny M A (setFlight (.ref e) fl') Q E s := by
  obtain ⟨f1, f2, f3, T, oT, ts, he, hnT, hTe, hT, hdT, h3⟩ := x
  have hsz3 : 3 < ts.size := (Array.getElem?_eq_some_iff.mp h3).1
  have other : ∀ b, b ≠ T → (s.heap.update T (Obj.mapFields (·.setIfInBounds 3 (fl'.elim Value.none fun f => rawInt f)))).get? b = s.heap.get? b := fun b hb => Heap.get?_update_other _ _ (Ne.symm hb)
  have noRecord : ∀ b o, s.heap.get? b = some o → (∀ vs, o.data ≠ .fields vs) → b ≠ T := fun b o hb hnf q => by
    rw [q, hT] at hb; injection hb with hb; subst hb; exact hnf ts hdT
  unfold setFlight
  refine wpAny_bind (wpAny_field (x := .ref T) he rfl rfl ?_)
  rw [if_pos (show (Value.ref T != Value.none) = true from by simp)]
  refine wpAny_setField hT hdT hsz3 (h _ ⟨fun b o hbo => (other b fun q => by rw [q, hnT] at hbo; cases hbo).trans (f1 b o hbo), f2, f3.of_keeps fun b o hb hnf => ⟨o, (other b (noRecord b o hb hnf)).trans hb, rfl⟩,
    T, _, _, (other e (Ne.symm hTe)).trans he, hnT, hTe, Heap.get?_update_self _ hT (Obj.isFreed_of_fields (Obj.data_mapFields hdT _)), Obj.data_mapFields hdT _, ?_⟩ fun b o hb hnf => ⟨o.slots, (other b (noRecord b o hb hnf)).trans hb⟩)
  simp [hsz3]
theorem x_note (hfr : A.frames = some (env :: outer)) (hf : env.frame = some L) (x : FlyB B s.heap (env :: outer) e C t ctx dx .none)
    (h : ∀ h', FlyB B h' (env :: outer) e C t ctx dx (rawInt L) → s.heap.UpToSlots h' → Q () { s with heap := h' }) : wpAny M A (noteFrame (.ref e) env) Q E s := by
  obtain ⟨f1, f2, f3, T, oT, ts, he, hnT, hTe, hT, hdT, h3⟩ := x
  have other : ∀ b, b ≠ T → (s.heap.update T (Obj.mapFields (·.setIfInBounds 3 Value.none))).get? b = s.heap.get? b := fun b hb => Heap.get?_update_other _ _ (Ne.symm hb)
  have noRecord : ∀ b o, s.heap.get? b = some o → (∀ vs, o.data ≠ .fields vs) → b ≠ T := fun b o hb hnf q => by
    rw [q, hT] at hb; injection hb with hb; subst hb; exact hnf ts hdT
  unfold noteFrame
  simp only [hf]
  refine wpAny_bind (wpAny_field (x := .ref T) he rfl rfl ?_)
  rw [if_pos (show (Value.ref T != Value.none) = true from by simp)]
  refine wpAny_bind (wpAny_field hT hdT h3 ?_)
  rw [if_neg (show ¬ ((Value.none == rawInt L) = true) from by simp [rawInt])]
  refine wpAny_bind (wpAny_setField hT hdT (Array.getElem?_eq_some_iff.mp h3).1 ?_)
  exact x_entry hfr (f3.of_keeps fun b o hb hnf => ⟨o, (other b (noRecord b o hb hnf)).trans hb, rfl⟩) hf ((other e (Ne.symm hTe)).trans he)
    (fun b o hbo => (other b fun q => by rw [q, hnT] at hbo; cases hbo).trans (f1 b o hbo)) f2 fun h' x1 x2 => h h' x1 fun b o hb hnf => x2 b o ((other b (noRecord b o hb hnf)).trans hb) hnf
theorem x_noteSame (hf : env.frame = some L) (x : FlyB B s.heap l e C t ctx dx (rawInt L)) (h : Q () s) : wpAny M A (noteFrame (.ref e) env) Q E s := by
  obtain ⟨f1, f2, f3, T, oT, ts, he, hnT, hTe, hT, hdT, h3⟩ := x
  unfold noteFrame
  simp only [hf]
  refine wpAny_bind (wpAny_field (x := .ref T) he rfl rfl ?_)
  rw [if_pos (show (Value.ref T != Value.none) = true from by simp)]
  refine wpAny_bind (wpAny_field hT hdT h3 ?_)
  rw [if_pos (show (rawInt L == rawInt L) = true from by simp)]
  exact wpAny_pure h
theorem x_leave0 (hfr : A.frames = some (env :: outer)) (hl : s.heap.FunFrames B (env :: outer)) (hf : env.frame = some L) (he : s.heap.get? e = some (excAt C t .none ctx (some dx))) (hkb : B.StaysIn s.heap) (hen : B.get? e = none)
    (h : ∀ h', FlyB B h' outer e C t ctx dx .none → s.heap.UpToSlots h' → Q () { s with heap := h' }) : wpAny M A (leaving env (.ref e)) Q E s :=
  wpAny_bind (x_note0 hfr hl hf he hkb hen fun h' x u => x_flight (s := { s with heap := h' }) (fl' := none) x fun h'' x' u' => h h'' x'.pop (u.trans u'))
theorem x_leave (hfr : A.frames = some (env :: outer)) (hf : env.frame = some L) (x : FlyB B s.heap (env :: outer) e C t ctx dx .none)
    (h : ∀ h', FlyB B h' outer e C t ctx dx .none → s.heap.UpToSlots h' → Q () { s with heap := h' }) : wpAny M A (leaving env (.ref e)) Q E s :=
  wpAny_bind (x_note hfr hf x fun h' x u => x_flight (s := { s with heap := h' }) (fl' := none) x fun h'' x' u' => h h'' x'.pop (u.trans u'))
theorem x_leaveSame (hf : env.frame = some L) (x : FlyB B s.heap (env :: outer) e C t ctx dx (rawInt L))
    (h : ∀ h', FlyB B h' outer e C t ctx dx .none → s.heap.UpToSlots h' → Q () { s with heap := h' }) : wpAny M A (leaving env (.ref e)) Q E s :=
  wpAny_bind (x_noteSame hf x (x_flight (fl' := none) x fun h'' x' u' => h h'' x'.pop u'))
end
/-- an exception made by its own __init__ -/
abbrev RetX (C : Addr) (h₀ : Heap) (L : Addr) (m : Str → Option Value) (news : List (Addr × Obj)) (s : Shared) (Q : Value → Shared → Prop) (v : Value) : Prop :=
  ∀ (e dx t : Addr) (hsh : Int) (tk : Tok) (h' : Heap) (tk' : Nat), Fr h₀ L h' m → News h₀ L h' ((e, excAt C t .none .none (some dx)) :: (dx, dictOf [⟨hsh, .str (Str.ofString "message") tk, v⟩] 1) :: (t, tupN [v]) :: news) → (∀ p ∈ news, p.1 < t) → t < e → e < dx → Q (.ref e) { s with heap := h', toks := tk' }
end
section
/-- an exception on its way through the frames l, above the heap G -/
def RaisedD (base G : Heap) (l : List Env) (e C t : Addr) (ctx : Value) (dx : Addr) (news : List (Addr × Obj)) (h : Heap) : Prop :=
  ∃ B, base.StaysIn B ∧ (∀ b o, G.get? b = some o → b ∉ l.filterMap (·.frame) → B.get? b = some o) ∧ (∀ q ∈ news, B.get? q.1 = some q.2 ∧ G.get? q.1 = none ∧ base.get? q.1 = none) ∧ FlyB B h l e C t ctx dx .none
theorem RaisedD.sub {base G : Heap} {l : List Env} {e C t : Addr} {ctx : Value} {dx : Addr} {news news' : List (Addr × Obj)} {h : Heap} (R : RaisedD base G l e C t ctx dx news h) (hs : ∀ p ∈ news', p ∈ news) : RaisedD base G l e C t ctx dx news' h :=
  let ⟨B, a, b, c, d⟩ := R; ⟨B, a, b, fun q hq => c q (hs q hq), d⟩
section
variable {M : Model} {A A₀ : Around} {E : Value → Shared → Prop} {s' : Shared} {base g G : Heap} {outer : List Env} {L a e C t dx : Addr} {ctx : Value} {m : Str → Option Value} {name : Str} {scope : Scope} {cd : Value} {Q : Unit → Shared → Prop} {news : List (Addr × Obj)}
theorem hide_facts (K : Below A base outer g) (F : Fr g L s'.heap m) {o₀ : Obj} (N : News g L s'.heap ((e, o₀) :: news)) (hne : ∀ q ∈ news, q.1 ≠ e) (hk : scope.kind = .function) :
    ∃ B, base.StaysIn B ∧ (∀ b o, g.get? b = some o → b ∉ outer.filterMap (·.frame) → B.get? b = some o) ∧ (∀ q ∈ news, B.get? q.1 = some q.2 ∧ g.get? q.1 = none ∧ base.get? q.1 = none) ∧ B.StaysIn s'.heap ∧ B.get? e = none ∧ B.get? L = none ∧ s'.heap.FunFrames B (envOf name scope L a cd :: outer) := by
  have K' := K.push (name := name) (a := a) (cd := cd) F hk
  have ge := (N _ (.head _)).2.2
  have be := fresh_of_stays K.stays ge
  have hin : ∀ env ∈ (envOf name scope L a cd :: outer), ∀ b, env.frame = some b → b ∈ e :: (envOf name scope L a cd :: outer).filterMap (·.frame) := fun env he b hb => .tail _ (List.mem_filterMap.mpr ⟨env, he, hb⟩)
  refine ⟨hideAll s'.heap (e :: (envOf name scope L a cd :: outer).filterMap (·.frame)), fun b o q => hideAll_get _ (K'.stays b o q) fun hm => ?_, fun b o q nm => hideAll_get _ (F.keep b o q) fun hm => ?_, fun q hq => ⟨hideAll_get _ (N q (.tail _ hq)).1 fun hm => ?_, (N q (.tail _ hq)).2.2, fresh_of_stays K.stays (N q (.tail _ hq)).2.2⟩,
    fun b o q => of_hideAll _ q, hideAll_none _ (.head _), hideAll_none _ (hin _ (.head _) L rfl), funFrames_hide K'.frames hin⟩
  · rcases List.mem_cons.mp hm with rfl | hm
    · rw [be] at q; cases q
    · rw [(K'.frames.mem hm).1] at q; cases q
  · rcases List.mem_cons.mp hm with rfl | hm
    · rw [ge] at q; cases q
    · rcases kts_mem hm with z | z
      · rw [z, kts_self F] at q; cases q
      · exact nm z
  · rcases List.mem_cons.mp hm with z | hm
    · exact hne q hq z
    · rcases kts_mem hm with z | z
      · exact (N q (.tail _ hq)).2.1 z
      · obtain ⟨o, ho, _⟩ := (K.frames.mem z).2
        rw [(N q (.tail _ hq)).2.2] at ho; cases ho
theorem xk_leave0 (K : Below A base outer g) (F : Fr g L s'.heap m) (N : News g L s'.heap ((e, excAt C t .none ctx (some dx)) :: news)) (hne : ∀ q ∈ news, q.1 ≠ e)
    (hQ : ∀ h', RaisedD base g outer e C t ctx dx news h' → g.UpToSlots h' → Q () { s' with heap := h' }) (hk : scope.kind = .function := by rfl) :
    wpAny M (A.deeper (envOf name scope L a cd)) (leaving (envOf name scope L a cd) (.ref e)) Q E s' := by
  obtain ⟨B, b1, b2, b3, b4, b5, b6, b7⟩ := hide_facts (name := name) (a := a) (cd := cd) K F N hne hk
  exact x_leave0 (Around.frames_deeper K.stack) b7 rfl (N _ (.head _)).1 b4 b5 fun h' x u => hQ h' ⟨B, b1, b2, b3, x⟩ ((Heap.UpToSlots.of_keeps F.keep).trans u)
theorem RaisedD.pop (F : Fr g L G m) {l : List Env} {h : Heap} {B : Heap} (b1 : base.StaysIn B) (b2 : ∀ b o, G.get? b = some o → b ∉ (envOf name scope L a cd :: outer).filterMap (·.frame) → B.get? b = some o) (b3 : ∀ q ∈ news, B.get? q.1 = some q.2 ∧ G.get? q.1 = none ∧ base.get? q.1 = none)
    (x : FlyB B h outer e C t ctx dx .none) : RaisedD base g outer e C t ctx dx news h :=
  ⟨B, b1, fun b o q nm => b2 b o (F.keep b o q) (fun hm => by
    rcases kts_mem hm with z | z
    · rw [z, kts_self F] at q; cases q
    · exact nm z), fun q hq => ⟨(b3 q hq).1, kts_none F.keep (b3 q hq).2.1, (b3 q hq).2.2⟩, x⟩
theorem xk_leave (K : Below A base outer g) (F : Fr g L G m) (R : RaisedD base G (envOf name scope L a cd :: outer) e C t ctx dx news s'.heap) (hsm : G.UpToSlots s'.heap)
    (hQ : ∀ h', RaisedD base g outer e C t ctx dx news h' → g.UpToSlots h' → Q () { s' with heap := h' }) :
    wpAny M (A.deeper (envOf name scope L a cd)) (leaving (envOf name scope L a cd) (.ref e)) Q E s' := by
  obtain ⟨B, b1, b2, b3, x⟩ := R
  exact x_leave (Around.frames_deeper K.stack) rfl x fun h' x u => hQ h' (RaisedD.pop F (l := outer) b1 b2 b3 x) ((Heap.UpToSlots.of_keeps F.keep).trans (hsm.trans u))
end
theorem funFrames_on {B h h' : Heap} (k : ∀ b o, h.get? b = some o → (∀ vs, o.data ≠ .fields vs) → ∃ o', h'.get? b = some o' ∧ ∀ vs, o'.data ≠ .fields vs) : ∀ {l : List Env}, h.FunFrames B l → h'.FunFrames B l
  | [], _ => trivial
  | _ :: _, ⟨hk, ⟨L, o, hf, hn, ho, hd⟩, hr⟩ => by
    obtain ⟨o', h1, h2⟩ := k L o ho hd
    exact ⟨hk, ⟨L, o', hf, hn, h1, h2⟩, funFrames_on k hr⟩
theorem FlyB.same {B h h' : Heap} {l : List Env} {e C t L : Addr} {ctx : Value} {dx : Addr} {fl : Value} {m m' : Str → Option Value} (x : FlyB B h l e C t ctx dx fl) (hL : B.get? L = none) (hn : h.Ns L m) (hn' : h'.Ns L m') (sb : Heap.SameBut L h h') : FlyB B h' l e C t ctx dx fl := by
  obtain ⟨f1, f2, f3, T, oT, ts, he, hnT, hTe, hT, hdT, h3⟩ := x
  obtain ⟨oL, es, ep, ho, hd, _⟩ := hn
  obtain ⟨oL', es', ep', ho', hd', _⟩ := hn'
  refine ⟨fun b o q => (sb.2 b fun z => by rw [z, hL] at q; cases q).trans (f1 b o q), f2, funFrames_on (fun b o hb hnf => ?_) f3, T, oT, ts, (sb.2 e fun z => ?_).trans he, hnT, hTe, (sb.2 T fun z => ?_).trans hT, hdT, h3⟩
  · by_cases z : b = L
    · subst z; exact ⟨oL', ho', fun vs q => by rw [hd'] at q; cases q⟩
    · exact ⟨o, (sb.2 b z).trans hb, hnf⟩
  · rw [z, ho] at he; cases he; cases hd
  · rw [z, ho] at hT; cases hT; rw [hd] at hdT; cases hdT
end
section
section
variable {prog : Program} {w : World} {A A₀ : Around} {E : Value → Shared → Prop} {s s' : Shared} {env : Env} {K : Frag} {C : Addr}
def RaiseBack (K : Frag) (C : Addr) (E : Value → Shared → Prop) (v : Value) (s₁ : Shared) : Prop :=
  ∃ e t dx, v = .ref e ∧ K.In s₁.heap ∧ s₁.heap.get? e = some (excAt C t .none .none dx) ∧ E (.ref e) s₁
def RaiseBackH (K : Frag) (C e0 : Addr) (E : Value → Shared → Prop) (v : Value) (s₁ : Shared) : Prop :=
  ∃ e t dx C0 t0 tb0 dx0, v = .ref e ∧ K.In s₁.heap ∧ s₁.heap.get? e = some (excAt C t .none .none dx) ∧ s₁.heap.get? e0 = some (excAt C0 t0 tb0 .none dx0) ∧ e0 ≠ e ∧ E (.ref e) { s₁ with heap := s₁.heap.update e (Obj.mapFields (·.setIfInBounds 2 (.ref e0))) }
theorem x_raiseStmt {x : Sem Value} {Q : Flow → Shared → Prop} (q : ktsIn K C "BaseException" = true)
    (h : wpAny (model prog w) A x (fun v s₁ => ∃ e t dx, v = .ref e ∧ K.In s₁.heap ∧ s₁.heap.get? e = some (excAt C t .none .none dx) ∧ wpAny (model prog w) A (raiseNew (.ref e) : Sem Flow) Q E s₁) E s) :
    wpAny (model prog w) A (raiseStmt env (some x) none) Q E s := by
  unfold raiseStmt
  refine wpAny_bind (wpAny_mono h (fun v s₁ h₁ => ?_) fun _ _ x => x)
  obtain ⟨e, t, dx, rfl, X, he, hE⟩ := h₁
  obtain ⟨nm, q', N, bs, bm, hdct, sn, sub, ab, col, dd, k0, k1, k2, k3, k5, newId, hC, hbase, hbT⟩ := kts_cls X q
  have hcB : (Value.ref C :: bm).contains (.type "BaseException") = true := by rw [List.contains_cons, hbase, Bool.or_true]
  obtain ⟨hp, g, d, tk, os⟩ := s₁
  repeat (first | with_reducible refine wpAny_loadPart_at he ?_ | with_reducible refine wpAny_loadPart_at hC ?_ | (with_reducible refine wpAny_isSubtype_exc hC ?_; rw [hcB]) | wp_step)
  exact hE
theorem x_Raise {x : PySem.Expr} {pos : Pos} {Q : Flow → Shared → Prop} (q : ktsIn K C "BaseException" = true) (hh : A.handled = none) (h : wpAny (model prog w) A (eval x env) (RaiseBack K C E) E s) :
    wpAny (model prog w) A (exec (.Raise (some x) none pos) env) Q E s := by
  rw [arm_exec_Raise]
  refine wpAny_bind (wpAny_standAt (x_raiseStmt (K := K) (C := C) q (wpAny_bind (wpAny_mono h (fun v s₃ h₃ => wpAny_bind (wpAny_standAt (wpAny_pure ?_))) fun _ _ x => x))))
  obtain ⟨e, t, dx, rfl, X, he, hE⟩ := h₃
  exact ⟨e, t, dx, rfl, X, he, wpAny_raiseNew_none hh hE⟩
theorem unchain_entry : entryFor table "proto.unchain" = some Builtin.«proto.unchain» := entryFor_of_tree (by kernel_rfl)
theorem x_RaiseH {x : PySem.Expr} {pos : Pos} {e0 : Addr} {Q : Flow → Shared → Prop} (q : ktsIn K C "BaseException" = true) (hh : A.handled = some (.ref e0)) (h : wpAny (model prog w) A (eval x env) (RaiseBackH K C e0 E) E s) :
    wpAny (model prog w) A (exec (.Raise (some x) none pos) env) Q E s := by
  rw [arm_exec_Raise]
  refine wpAny_bind (wpAny_standAt (x_raiseStmt (K := K) (C := C) q (wpAny_bind (wpAny_mono h (fun v s₃ h₃ => wpAny_bind (wpAny_standAt (wpAny_pure ?_))) fun _ _ x => x))))
  obtain ⟨e, t, dx, C0, t0, tb0, dx0, rfl, X, he, he0, hne, hE⟩ := h₃
  refine ⟨e, t, dx, rfl, X, he, ?_⟩
  unfold raiseNew
  refine wpAny_bind (wpAny_handled ?_)
  rw [hh]
  dsimp only
  rw [if_pos (show (Value.ref e0 != Value.ref e) = true from by simp [hne])]
  refine wpAny_bind (wpAny_holding (wpAny_runValue (codeAny_builtin unchain_entry ?_)))
  refine wpAny_bind (wpAny_field (x := .none) he0 rfl rfl ?_)
  refine wpAny_bind (wpAny_pure ?_)
  refine wpAny_pure ?_
  refine wpAny_bind ?_
  show wpAny _ _ (setField (.ref e) 2 (.ref e0)) _ _ _
  exact wpAny_setField he rfl (by simp) (wpAny_throw hE)
end
end
section
theorem RaisedD.turn {base g g' : Heap} {l : List Env} {e C t : Addr} {ctx : Value} {dx : Addr} {news : List (Addr × Obj)} {h : Heap} (T : KtsTurn (l.filterMap (·.frame)) g g') (R : RaisedD base g' l e C t ctx dx news h) : RaisedD base g l e C t ctx dx news h := by
  obtain ⟨B, a, b, c, d⟩ := R
  refine ⟨B, a, fun b' o q nm => b b' o (T.other _ _ q nm) nm, fun q hq => ⟨(c q hq).1, ?_, (c q hq).2.2⟩, d⟩
  cases z : g.get? q.1 with
  | none => rfl
  | some o =>
    obtain ⟨sl, hs⟩ := T.up z
    rw [(c q hq).2.1] at hs; cases hs
theorem kts_slots {fs : List Addr} {g g' : Heap} (T : KtsTurn fs g g') : g.UpToSlots g' := fun b o e _ => T.up e
section
variable {prog : Program} {w : World} {A₀ : Around} {E : Value → Shared → Prop} {s' : Shared} {base g G : Heap} {outer : List Env} {L a e C t dx : Addr} {ctx : Value} {m : Str → Option Value} {name : Str} {scope : Scope} {cd : Value}
  {n : Str} {b₀ : Stmt} {suite : List Stmt} {pos np : Pos} {rest : List ExceptHandler} {Q : Flow → Shared → Prop} {news : List (Addr × Obj)} {KF : Frag} {p : Program} {loose : List Str} {mean : ExcName → Option Value} {mg mb : Str → Option Value} {x : Str}
theorem xk_caught (R : RaisedD base G (envOf name scope L a cd :: outer) e C t ctx dx news s'.heap) (F : Fr g L G m) (K : Below A₀ base outer g) (hsm : G.UpToSlots s'.heap) (XB : KF.In base) (TB : Top p loose mean mg mb base)
    (ex : nsIn KF mainGlobals x = some (some (.ref C))) (q : ktsIn KF C "BaseException" = true)
    (k : ∀ h' g' T tk, KtsTurn (outer.filterMap (·.frame)) g g' → Fr g' L h' (fun y => if y = n then some (.ref e) else m y) → News g' L h' ((e, excAt C t (.ref T) ctx (some dx)) :: news) → (∀ q ∈ news, q.1 ≠ e) → Below A₀ base outer g' → KF.In g' → Top p loose mean mg mb g' →
      wpAny (model prog w) ((A₀.deeper (envOf name scope L a cd)).mark (some (.ref e))) (execs (b₀ :: suite) (envOf name scope L a cd))
        (fun f s₄ => wpAny (model prog w) (A₀.deeper (envOf name scope L a cd)) (do bindName (envOf name scope L a cd) n .none; unbindBehindTheSuite (envOf name scope L a cd) n pos) (fun _ s₅ => Q f s₅) E s₄)
        (AsSuiteRaised (model prog w) ((A₀.deeper (envOf name scope L a cd)).mark (some (.ref e))) (envOf name scope L a cd) n pos (notedBy (model prog w) ((A₀.deeper (envOf name scope L a cd)).mark (some (.ref e))) (envOf name scope L a cd) (cameBackBy (model prog w) (A₀.deeper (envOf name scope L a cd)) (envOf name scope L a cd) E)))
        { s' with heap := h', toks := tk })
    (hk : scope.kind = .function := by rfl) (hlo : (envOf name scope L a cd).kindOf n = some .local := by rfl) (hx : (envOf name scope L a cd).kindOf x = some .globalImplicit := by rfl) (hd : (x == ("__debug__" : Str)) = false := by decide) :
    wpAny (model prog w) (A₀.deeper (envOf name scope L a cd)) (noteFrame (.ref e) (envOf name scope L a cd))
      (fun _ s₂ => wpAny (model prog w) (A₀.deeper (envOf name scope L a cd)) (setFlight (.ref e) none) (fun _ s₃ =>
        wpAny (model prog w) (A₀.deeper (envOf name scope L a cd)) (handleBy (.ref e) (envOf name scope L a cd) (.ExceptHandler (some (.Name x np)) (some n) (b₀ :: suite) pos :: rest)) Q E s₃) E s₂) E s' := by
  obtain ⟨B, hB, hBG, hl, fx⟩ := R
  have hL : B.get? L = none := by
    obtain ⟨_, ⟨L', _, hf, hn', _⟩, _⟩ := fx.2.2.1
    obtain rfl : L = L' := Option.some.inj hf
    exact hn'
  refine x_note (Around.frames_deeper K.stack) rfl fx fun h₄ x₄ u₄ => ?_
  refine x_flight (s := { s' with heap := h₄ }) (fl' := none) x₄ fun h₅ x₅ u₅ => ?_
  have hsm₅ := hsm.trans (u₄.trans u₅)
  obtain ⟨g₅, T₅, F₅, K₅⟩ := kts_ground K F hBG x₅.1 hsm₅
  have X₅ : KF.In g₅ := XB.keeps K₅.stays
  have P₅ : TopRead p loose mg mb g₅ := topRead_of (TB.keeps K₅.stays)
  have he₅ : ∃ T, h₅.get? e = some (excAt C t (.ref T) ctx (some dx)) := let ⟨_, _, _, T, _, _, he, _⟩ := x₅; ⟨T, he⟩
  obtain ⟨T5, he₅⟩ := he₅
  obtain ⟨nm, q', N, bs, bm, hdct, sn, sub, ab, col, dd, k0, k1, k2, k3, k5, newId, hC, hbase, hbT⟩ := kts_cls X₅ q
  have hC₅ := F₅.keep _ _ hC
  refine wpAny_handleBy_cons (codeAny_handlers_test (name_K F₅ X₅ P₅ ex ?_ hk hx hd)) (by intro q; cases q)
  refine wpAny_excMatches_sub_self hC₅ he₅ rfl hbase (codeAny_handlers_suite_as ?_)
  refine x_flight (s := { s' with heap := h₅ }) (fl' := none) x₅ fun h₆ x₆ u₆ => ?_
  obtain ⟨g₆, T₆, F₆, K₆⟩ := kts_ground K F hBG x₆.1 (hsm₅.trans u₆)
  have he₆ : ∃ T, h₆.get? e = some (excAt C t (.ref T) ctx (some dx)) := let ⟨_, _, _, T, _, _, he, _⟩ := x₆; ⟨T, he⟩
  obtain ⟨T6, he₆⟩ := he₆
  have ne₆ : g₆.get? e = none := T₆.none_ _ (kts_fresh F hBG x₆.2.1 fun o ho m => by
    obtain ⟨_, o', ho', hd⟩ := K.frames.mem m
    rw [ho] at ho'
    cases ho'
    obtain ⟨sl, hs⟩ := (hsm₅.trans u₆) _ _ (F.keep _ _ ho) hd
    rw [he₆] at hs
    injection hs with hs
    exact hd _ (congrArg Obj.data hs).symm)
  have eL : e ≠ L := fun z => by
    obtain ⟨oL, es, ep, ho, hd, _⟩ := F₆.ns
    rw [← z, he₆] at ho; cases ho; cases hd
  have hne : ∀ q ∈ news, q.1 ≠ e := fun q hq z => by
    have := (hl q hq).1
    rw [z, x₆.2.1] at this; cases this
  have N₆ : News g₆ L h₆ ((e, excAt C t (.ref T6) ctx (some dx)) :: news) := fun q hq => by
    rcases List.mem_cons.mp hq with rfl | hq
    · exact ⟨he₆, eL, ne₆⟩
    · exact ⟨x₆.1 _ _ (hl q hq).1, (fun z => by have := (hl q hq).1; rw [z, hL] at this; cases this), T₆.none_ _ (kts_none F.keep (hl q hq).2.1)⟩
  have X₆ : KF.In g₆ := XB.keeps K₆.stays
  have P₆ : Top p loose mean mg mb g₆ := TB.keeps K₆.stays
  refine stN (s := { s' with heap := h₆ }) F₆ N₆ (fun h₇ F₇ N₇ => ?_) hk hlo
  exact k h₇ g₆ T6 _ T₆ F₇ N₇ hne K₆ X₆ P₆
theorem xk_suite {P : Value → Shared → Prop} {e0 : Addr} (K : Below A₀ base outer g) (F : Fr g L s'.heap m) (N : News g L s'.heap ((e, excAt C t .none ctx (some dx)) :: news)) (hne : ∀ q ∈ news, q.1 ≠ e)
    (hR : ∀ h' tk', RaisedD base g outer e C t ctx dx news h' → g.UpToSlots h' → P (.ref e) { s' with heap := h', toks := tk' })
    (hk : scope.kind = .function := by rfl) (hlo : (envOf name scope L a cd).kindOf n = some .local := by rfl) :
    AsSuiteRaised (model prog w) ((A₀.deeper (envOf name scope L a cd)).mark (some (.ref e0))) (envOf name scope L a cd) n pos (notedBy (model prog w) ((A₀.deeper (envOf name scope L a cd)).mark (some (.ref e0))) (envOf name scope L a cd) (cameBackBy (model prog w) (A₀.deeper (envOf name scope L a cd)) (envOf name scope L a cd)
      (fun e s' => wpAny (model prog w) (A₀.deeper (envOf name scope L a cd)) (leaving (envOf name scope L a cd) e) (fun _ s'' => P e s'') (fun e' s'' => P e' s'') s'))) (.ref e) s' := by
  obtain ⟨B, b1, b2, b3, b4, b5, b6, b7⟩ := hide_facts (name := name) (a := a) (cd := cd) K F N hne hk
  refine x_note0 (Around.frames_deeper K.stack) b7 rfl (N _ (.head _)).1 b4 b5 fun h₁ x₁ u₁ => ?_
  have n₁ : h₁.Ns L m := u₁.ns F.ns
  refine wpAny_nameGoes (s := { s' with heap := h₁ }) hlo n₁ (by show (scope.kind == .class || (scope.kind == .module && L != mainGlobals)) = false; rw [hk]; rfl) fun h₂ m₂ n₂ sb₂ => ?_
  have x₂ := x₁.same b6 n₁ n₂ sb₂
  have u₂ : g.UpToSlots h₂ := fun b o q hnf => by
    obtain ⟨sl, hs⟩ := u₁ b o (F.keep b o q) hnf
    exact ⟨sl, (sb₂.2 b fun z => by
      replace z : b = L := z
      rw [z, kts_self F] at q; cases q).trans hs⟩
  have he₂ : ∃ T, h₂.get? e = some (excAt C t (.ref T) ctx (some dx)) := let ⟨_, _, _, T, _, _, he, _⟩ := x₂; ⟨T, he⟩
  obtain ⟨T2, he₂⟩ := he₂
  unfold PySem.passOn
  refine wpAny_bind (wpAny_field (x := .ref T2) he₂ rfl rfl ?_)
  rw [if_neg (show ¬ ((Value.ref T2 == Value.none) = true) from by simp)]
  refine wpAny_bind (x_flight (s := { s' with heap := h₂, toks := _ }) (fl' := some L) x₂ fun h₃ x₃ u₃ => wpAny_throw ?_)
  refine x_noteSame rfl x₃ ?_
  have he₃ : ∃ T, h₃.get? e = some (excAt C t (.ref T) ctx (some dx)) := let ⟨_, _, _, T, _, _, he, _⟩ := x₃; ⟨T, he⟩
  obtain ⟨T3, he₃⟩ := he₃
  refine wpAny_bind (wpAny_field (x := .ref T3) he₃ rfl rfl ?_)
  rw [if_neg (show ¬ ((Value.ref T3 == Value.none) = true) from by simp)]
  refine x_flight (s := { s' with heap := h₃, toks := _ }) (fl' := some L) x₃ fun h₄ x₄ u₄ => ?_
  refine x_leaveSame rfl x₄ fun h₅ x₅ u₅ => ?_
  exact hR h₅ _ ⟨B, b1, b2, b3, x₅⟩ (u₂.trans (u₃.trans (u₄.trans u₅)))
end
abbrev RetE (base : Heap) (C : Addr) (h₀ : Heap) (L : Addr) (m : Str → Option Value) (l : List Env) (news : List (Addr × Obj)) (s : Shared) (E : Value → Shared → Prop) (x : Str) : Prop :=
  ∀ (G : Heap) (e t dx : Addr) (hsh : Int) (tk tm : Tok) (h' : Heap) (tk' : Nat), Fr h₀ L G m → RaisedD base G l e C t .none dx ((dx, dictOf [⟨hsh, .str (Str.ofString "message") tk, .str x tm⟩] 1) :: news) h' → G.UpToSlots h' → E (.ref e) { s with heap := h', toks := tk' }
abbrev RetES (base : Heap) (C : Addr) (h₀ : Heap) (L : Addr) (m : Str → Option Value) (l : List Env) (news : List (Addr × Obj)) (s : Shared) (E : Value → Shared → Prop) (x : Str) : Prop :=
  ∀ (G : Heap) (e t dx : Addr) (ctx : Value) (hsh : Int) (tk tm : Tok) (h' : Heap) (tk' : Nat), Fr h₀ L G m → RaisedD base G l e C t ctx dx ((dx, dictOf [⟨hsh, .str (Str.ofString "message") tk, .str x tm⟩] 1) :: news) h' → G.UpToSlots h' → E (.ref e) { s with heap := h', toks := tk' }
abbrev msgR : Str := Str.ofString "a right angle has no tangent"
theorem raised_leave {prog : Program} {w : World} {A : Around} {s₁ : Shared} {base h₀ g : Heap} {outer : List Env} {L L' a e C t dx : Addr} {m m' : Str → Option Value} {name : Str} {scope : Scope} {cd : Value} {news rest : List (Addr × Obj)} {KF : Frag} {P : Value → Shared → Prop} {hsh : Int} {tk tm : Tok} {x : Str}
    (K : Below A base outer g) (X : KF.In g) (F : Fr g L' s₁.heap m') (N : News g L' s₁.heap ((e, excAt C t .none .none (some dx)) :: (dx, dictOf [⟨hsh, .str (Str.ofString "message") tk, .str x tm⟩] 1) :: (t, tupN [.str x tm]) :: rest)) (l8 : ∀ p ∈ rest, p.1 < t) (l9 : t < e) (l7 : e < dx)
    (FG : Fr h₀ L g m) (hs : ∀ p ∈ news, p ∈ rest)
    (hk : scope.kind = .function) (ret : ∀ (h' : Heap), Fr h₀ L g m → RaisedD base g outer e C t .none dx ((dx, dictOf [⟨hsh, .str (Str.ofString "message") tk, .str x tm⟩] 1) :: news) h' → g.UpToSlots h' → P (.ref e) { s₁ with heap := h' }) :
    RaiseBack KF C (fun e s' => wpAny (model prog w) (A.deeper (envOf name scope L' a cd)) (leaving (envOf name scope L' a cd) e) (fun _ s'' => P e s'') (fun e' s'' => P e' s'') s') (.ref e) s₁ := by
  refine ⟨e, t, some dx, rfl, X.keeps F.keep, (N _ (.head _)).1, ?_⟩
  refine xk_leave0 (s' := s₁) K F N (fun q hq => ?_) (fun h' R9 U9 => ?_) hk
  · rcases List.mem_cons.mp hq with rfl | hq
    · exact Nat.ne_of_gt l7
    rcases List.mem_cons.mp hq with rfl | hq
    · exact Nat.ne_of_lt l9
    · exact Nat.ne_of_lt (Nat.lt_trans (l8 q hq) l9)
  · exact ret h' FG (R9.sub fun p hp => by
      rcases List.mem_cons.mp hp with rfl | hp
      · exact .head _
      · exact .tail _ (.tail _ (hs p hp))) U9
theorem RaisedD.sub2 {base G : Heap} {l : List Env} {e C t : Addr} {ctx : Value} {dx : Addr} {q : Addr × Obj} {news news' : List (Addr × Obj)} {h : Heap} (R : RaisedD base G l e C t ctx dx (q :: news) h) (hs : ∀ p ∈ news', p ∈ news) : RaisedD base G l e C t ctx dx (q :: news') h :=
  R.sub fun p hp => by
    rcases List.mem_cons.mp hp with rfl | hp
    · exact .head _
    · exact .tail _ (hs p hp)
section
variable {prog : Program} {w : World} {A₀ : Around} {s₁ : Shared} {base h₀ g g6 : Heap} {outer : List Env} {L L' a e e0 C C0 t t0 T0 dx d0 : Addr} {m m' : Str → Option Value} {name : Str} {scope : Scope} {cd : Value} {news rest : List (Addr × Obj)} {KF : Frag} {P : Value → Shared → Prop} {hsh : Int} {tk tm : Tok} {x n : Str} {pos : Pos}
theorem raisedH_suite (K : Below A₀ base outer g6) (X : KF.In g6) (F : Fr g6 L' s₁.heap m') (N : News g6 L' s₁.heap ((e, excAt C t .none .none (some dx)) :: (dx, dictOf [⟨hsh, .str (Str.ofString "message") tk, .str x tm⟩] 1) :: (t, tupN [.str x tm]) :: rest)) (l8 : ∀ p ∈ rest, p.1 < t) (l9 : t < e) (l7 : e < dx)
    (hm : (e0, excAt C0 t0 (.ref T0) .none (some d0)) ∈ rest) (FG : Fr h₀ L g m) (KT : KtsTurn (outer.filterMap (·.frame)) g g6) (hs : ∀ p ∈ news, p ∈ rest) (hk : scope.kind = .function) (hlo : (envOf name scope L' a cd).kindOf n = some .local)
    (ret : ∀ (h' : Heap) (tk' : Nat), Fr h₀ L g m → RaisedD base g outer e C t (.ref e0) dx ((dx, dictOf [⟨hsh, .str (Str.ofString "message") tk, .str x tm⟩] 1) :: news) h' → g.UpToSlots h' → P (.ref e) { s₁ with heap := h', toks := tk' }) :
    RaiseBackH KF C e0 (AsSuiteRaised (model prog w) ((A₀.deeper (envOf name scope L' a cd)).mark (some (.ref e0))) (envOf name scope L' a cd) n pos (notedBy (model prog w) ((A₀.deeper (envOf name scope L' a cd)).mark (some (.ref e0))) (envOf name scope L' a cd) (cameBackBy (model prog w) (A₀.deeper (envOf name scope L' a cd)) (envOf name scope L' a cd)
      (fun e s' => wpAny (model prog w) (A₀.deeper (envOf name scope L' a cd)) (leaving (envOf name scope L' a cd) e) (fun _ s'' => P e s'') (fun e' s'' => P e' s'') s')))) (.ref e) s₁ := by
  have lt : ∀ q ∈ rest, q.1 < e := fun q hq => Nat.lt_trans (l8 q hq) l9
  have hne : ∀ q ∈ (dx, dictOf [⟨hsh, .str (Str.ofString "message") tk, .str x tm⟩] 1) :: (t, tupN [.str x tm]) :: rest, q.1 ≠ e := fun q hq => by
    rcases List.mem_cons.mp hq with rfl | hq
    · exact Nat.ne_of_gt l7
    rcases List.mem_cons.mp hq with rfl | hq
    · exact Nat.ne_of_lt l9
    · exact Nat.ne_of_lt (lt q hq)
  refine ⟨e, t, some dx, C0, t0, .ref T0, some d0, rfl, X.keeps F.keep, (N _ (.head _)).1, (N _ (.tail _ (.tail _ (.tail _ hm)))).1, Nat.ne_of_lt (lt _ hm), ?_⟩
  obtain ⟨F2, N2⟩ := news_upd (pre := []) (o' := excAt C t .none (.ref e0) (some dx)) (f := Obj.mapFields (·.setIfInBounds 2 (.ref e0))) F N (fun p hp => nomatch hp) hne rfl rfl
  refine xk_suite (s' := { s₁ with heap := s₁.heap.update e (Obj.mapFields (·.setIfInBounds 2 (.ref e0))) }) K F2 N2 hne (fun h' tk' R9 U9 => ?_) hk hlo
  exact ret h' tk' FG ((R9.sub2 fun p hp => .tail _ (hs p hp)).turn KT) ((kts_slots KT).trans U9)
end
theorem xk_get {prog : Program} {w : World} {A : Around} {E : Value → Shared → Prop} {s : Shared} {K : Frag} {h₀ : Heap} {L x C t dx : Addr} {tb ctx v : Value} {m : Str → Option Value} {news : List (Addr × Obj)} {es : List DictEntry} {n : Nat} {name : Str} {expr : Bool} {Q : Value → Shared → Prop}
    (F : Fr h₀ L s.heap m) (X₀ : K.In h₀) (N : News h₀ L s.heap news) (hm1 : (x, excAt C t tb ctx (some dx)) ∈ news) (hm2 : (dx, dictOf es n) ∈ news) (hga : findIn K (.ref C) "__getattribute__" = some (some (.builtin "BaseException.__getattribute__"))) (hgb : findIn K (.ref C) "__getattr__" = some none)
    (hsub : mroIn K C (.type "BaseException") = some true) (hh : hasDictIn K C = true) (ha : findIn K (.ref C) name = some none) (hl : getL name es = some (some v)) (hv : handedIn v = true) (h : Q v { s with toks := s.toks + 1 }) : wpAny (model prog w) A (getAttr (.ref x) name expr) Q E s :=
  x_get (X₀.keeps F.keep) ⟨(N _ hm1).1, rfl, rfl, (N _ hm2).1⟩ hga hgb hsub (findObj_own (attr := none) hh ha rfl (show lookIn name (dictOf es n) = some (some v) from hl)) hv h
abbrev RetL (h₀ : Heap) (L : Addr) (m : Str → Option Value) (news : List (Addr × Obj)) (s : Shared) (Q : Value → Shared → Prop) (x : Str) : Prop :=
  ∀ (D : Addr) (tm : Tok) (c : Nat) (h' : Heap) (tk' : Nat), Fr h₀ L h' m → News h₀ L h' ((D, listOf #[.str x tm] c) :: news) → AllLt D news → Q (.ref D) { s with heap := h', toks := tk' }
theorem end_L {h₀ h' : Heap} {L D : Addr} {m : Str → Option Value} {news news' : List (Addr × Obj)} {s : Shared} {Q : Value → Shared → Prop} {x : Str} {tm : Tok} {c : Nat} {tk' : Nat}
    (ret : RetL h₀ L m news s Q x) (F : Fr h₀ L h' m) (N : News h₀ L h' news') (hm : (D, listOf #[.str x tm] c) ∈ news') (hs : ∀ p ∈ news, p ∈ news') (lt : AllLt D news) : Q (.ref D) { s with heap := h', toks := tk' } := by
  refine ret D tm c h' tk' F (fun p hp => ?_) lt
  rcases List.mem_cons.mp hp with rfl | hp
  · exact N _ hm
  · exact N p (hs p hp)
end
section
section
open PyProof.Rows.LCg PyProof.Rows.LCt
variable {prog : Program} {w : World} {A : Around} {E : Value → Shared → Prop} {s : Shared} {h₀ : Heap} {L : Addr} {m : Str → Option Value} {env : Env}
abbrev TupAtN (ax : Addr) (its : Array Value) (news : List (Addr × Obj)) : Prop := ∃ k, (ax, ({ cls := .type "tuple", data := .seq its k } : Obj)) ∈ news
def SrcTT (prog : Program) (w : World) (A : Around) (h₀ : Heap) (L : Addr) (m : Str → Option Value) (env : Env) (ct elt : PySem.Expr) (x : Str) (scope : Scope) (cl : List (Str × Addr)) (Fin : Shared → List Value → List (Addr × Obj) → Prop) (xv : Value) (s₁ : Shared) : Prop :=
  ∃ ax its news, xv = .ref ax ∧ A.handled = none ∧ Fr h₀ L s₁.heap m ∧ News h₀ L s₁.heap news ∧ TupAtN ax its news ∧ its.size ≤ sizeLine ∧
    ∀ s₂ : Shared, (∃ h, s₂ = { s₁ with heap := h }) → CompRestT prog w A h₀ L m env ct elt x scope cl s₂ (TupAtN ax its) (fun i v => its[i]? = some v) (Fin s₂) its.size 0 [] news
theorem SrcTT.ledger {ct elt : PySem.Expr} {x : Str} {scope : Scope} {cl : List (Str × Addr)} {Fin : Shared → List Value → List (Addr × Obj) → Prop} {ax : Addr} {its : Array Value} {k : Nat} {news : List (Addr × Obj)} {s₁ : Shared}
    (hh : A.handled = none) (F : Fr h₀ L s₁.heap m) (N : News h₀ L s₁.heap news) (hm : (ax, ({ cls := .type "tuple", data := .seq its k } : Obj)) ∈ news) (hsz : its.size ≤ sizeLine)
    (h : ∀ g, CompRestT prog w A h₀ L m env ct elt x scope cl { s₁ with heap := g } (TupAtN ax its) (fun i v => its[i]? = some v) (Fin { s₁ with heap := g }) its.size 0 [] news) :
    SrcTT prog w A h₀ L m env ct elt x scope cl Fin (.ref ax) s₁ := ⟨ax, its, news, rfl, hh, F, N, ⟨_, hm⟩, hsz, fun _ ⟨g, e⟩ => e ▸ h g⟩
theorem tuple_stN {ax I : Addr} {its : Array Value} : ∀ i (h h' : Heap) (o : Obj) (nw : List (Addr × Obj)), (h.IsTupleIter I ax i ∧ h.IsTuple ax its) → h.get? I = some o → h'.get? I = some o → (∀ b o, h₀.get? b = some o → h'.get? b = some o) → News h₀ L h' nw → TupAtN ax its nw → (h'.IsTupleIter I ax i ∧ h'.IsTuple ax its) :=
  fun i h h' o nw st e e' k N ⟨n, hm⟩ => ⟨st.1.at fun o' q => by rw [e] at q; cases q; exact e', ⟨_, (N _ hm).1, rfl, n, rfl⟩⟩
theorem ListComp_TT {ct elt iter : PySem.Expr} {x : Str} {px : Pos} {scope : Scope} {cl : List (Str × Addr)} {pos : Pos} {Q : Value → Shared → Prop} (F₀ : Fr h₀ L s.heap m)
    (hclos : closureFor scope env = pure cl) (hcell : ∀ y ∈ scope.names, y.2 ≠ .cell) (hkind : scope.kind = .function)
    (hnames : ∀ y ∈ scope.names, y.2 = .local → scope.names.lookup y.1 = some .local) (hx : scope.names.lookup x = some .local)
    (h : wpAny (model prog w) A (eval iter env) (SrcTT prog w A h₀ L m env ct elt x scope cl (fun s₂ => FinE h₀ L m s₂ Q)) E s)
    (hs : ∀ x, foldedSetIterable iter env x = pure x := by intro _; rfl) :
    wpAny (model prog w) A (eval (.ListComp elt [⟨.Name x px, iter, [ct], 0⟩] scope pos) env) Q E s := by
  rw [eval_ListComp]
  refine wpAny_comprehension_free (use := none) rfl hs hclos hkind hnames (wpAny_mono h (fun xv s₁ h₁ => ?_) fun _ _ e => e)
  obtain ⟨ax, its, news, rfl, hh, F, N, S, hsz, R⟩ := h₁
  obtain ⟨k, hm⟩ := id S
  have hl : s₁.heap.IsTuple ax its := ⟨_, (N _ hm).1, rfl, k, rfl⟩
  have hlt : ax < s₁.heap.objs.size := Heap.lt_size (N _ hm).1
  refine wpAny_pyIter_tuple hl ?_
  have up : ∀ b o, s₁.heap.get? b = some o → (s₁.heap.push { cls := .type "tuple_iterator", data := .fields #[.ref ax, .int 0 0] }).get? b = some o := fun b o e => Heap.get?_push_of_some _ e
  refine block_T (Walks.tuple hh s₁.heap.objs.size ax (Nat.ne_of_lt hlt) its) hsz (fun i h st => by obtain ⟨o, e, _⟩ := st.1; exact ⟨o, e⟩) tuple_stN hcell hkind hx ⟨⟨_, Heap.get?_push_size _ rfl, rfl, rfl⟩, ⟨_, up _ _ (N _ hm).1, rfl, k, rfl⟩⟩ (fun b hb => ?_)
    (F.keeps up) (N.grown up) (Nat.ne_of_lt F.ns.lt) (next_is_new F) (fun p hp => Nat.ne_of_lt (Heap.lt_size (N p hp).1)) S (R _ ⟨_, rfl⟩) ?_
  · show b < (s₁.heap.push _).objs.size
    rw [Heap.size_push]
    rcases List.mem_cons.mp hb with rfl | hb
    · exact Nat.lt_succ_self _
    · rw [List.mem_singleton.mp hb]; exact Nat.lt_succ_of_lt hlt
  · intro D C h tk m' ys news' F' N' o1 hn hC₀ hD₀ hCL hDL hCD offC fin
    refine ⟨m', hn, fun h'' hs'' => fin D h'' tk (F'.change hs'' hCL hC₀) (fun p hp => ?_) o1⟩
    refine ⟨hs''.extBut _ _ ?_ (N' p hp).1, (N' p hp).2⟩
    rcases List.mem_cons.mp hp with rfl | hp
    · exact Ne.symm hCD
    · exact offC p hp
end
noncomputable def degF (n : Int) : Int × Int := if n.fmod 4 = 0 then (n.fdiv 4, 1) else if n.fmod 2 = 0 then (n.fdiv 2, 2) else (n.fdiv 1, 4)
theorem compEnd_here {h₀ : Heap} {L I C D : Addr} {m : Str → Option Value} {s₁ : Shared} {oI oC oD : Obj} {S : List (Addr × Obj) → Prop} {rest : Value → List (Addr × Obj) → Prop} {y : Value} {h' : Heap} {tk : Nat} {news' : List (Addr × Obj)}
    (F : Fr h₀ L h' m) (N : News h₀ L h' ((I, oI) :: (C, oC) :: (D, oD) :: news')) (off : LCg.Off3 I C D news') (hS : S news') (r : rest y news') :
    LCg.CompEnd h₀ L m s₁ I oI C oC D oD S rest y { s₁ with heap := h', toks := tk } := LCg.CompEnd.intro F N news' (fun _ h => h) off hS r
theorem fmod_e {n k : Int} (hk : 0 ≤ k) : n.fmod k = n % k := Int.fmod_eq_emod_of_nonneg _ hk
theorem deg4 {n M : Int} (h : n.fmod 4 = 0) (a : M = 1 ∨ M = 2 ∨ M = 4) (b : 1 ≤ M ∧ 2 ≤ M ∧ 4 ≤ M) : n.fdiv M = (degF n).1 ∧ Int.fdiv 4 M = (degF n).2 := by
  obtain rfl : M = 4 := by omega
  unfold degF; rw [if_pos h]; exact ⟨rfl, rfl⟩
theorem deg2 {n M : Int} (h : n.fmod 4 ≠ 0) (h2 : n.fmod 2 = 0) (a : M = 1 ∨ M = 2) (b : 1 ≤ M ∧ 2 ≤ M) : n.fdiv M = (degF n).1 ∧ Int.fdiv 4 M = (degF n).2 := by
  obtain rfl : M = 2 := by omega
  unfold degF; rw [if_neg h, if_pos h2]; exact ⟨rfl, rfl⟩
theorem deg1 {n M : Int} (h : n.fmod 4 ≠ 0) (h2 : n.fmod 2 ≠ 0) (a : M = 1) : n.fdiv M = (degF n).1 ∧ Int.fdiv 4 M = (degF n).2 := by
  subst a
  unfold degF; rw [if_neg h, if_neg h2]; exact ⟨rfl, rfl⟩
theorem degC {n : Int} (h : n.fmod 4 = 0) (h2 : n.fmod 2 ≠ 0) : False := by
  rw [fmod_e (by decide)] at h h2; omega
theorem degD {n : Int} (h : n.fmod 1 ≠ 0) : False := by
  rw [fmod_e (by decide)] at h; omega
end
section
inductive Pick (q : Addr × Obj) : List (Addr × Obj) → List (Addr × Obj) → Prop
  | head {r} : Pick q (q :: r) r
  | tail {p r r'} : Pick q r r' → Pick q (p :: r) (p :: r')
theorem Pick.mem {q : Addr × Obj} {l r : List (Addr × Obj)} (P : Pick q l r) : ∀ p ∈ q :: r, p ∈ l := by
  induction P with
  | head => exact fun _ h => h
  | tail P ih =>
    intro p hp
    rcases List.mem_cons.mp hp with rfl | hp
    · exact .tail _ (ih _ (.head _))
    · rcases List.mem_cons.mp hp with rfl | hp
      · exact .head _
      · exact .tail _ (ih _ (.tail _ hp))
theorem Pick.news {q : Addr × Obj} {l r : List (Addr × Obj)} {h₀ h : Heap} {L : Addr} (P : Pick q l r) (N : News h₀ L h l) : News h₀ L h (q :: r) := fun p hp => N p (P.mem p hp)
/-- what a draw out of a list leaves -/
abbrev RetO (P : Value → Prop) (h₀ : Heap) (L : Addr) (m : Str → Option Value) (rest : List (Addr × Obj)) (S : Addr) (s : Shared) (Q : Value → Shared → Prop) : Prop :=
  ∀ (v : Value) (x y : Int) (t u : Tok) (c : Nat) (h' : Heap) (tk' : Nat), P v → 0 ≤ x → intBits y ≤ 64 → Fr h₀ L h' m → News h₀ L h' ((S, listOf #[.int x t, .int y u] c) :: rest) → Q v { s with heap := h', toks := tk' }
theorem end_O {P : Value → Prop} {h₀ h' : Heap} {L S : Addr} {m : Str → Option Value} {rest news' : List (Addr × Obj)} {s : Shared} {Q : Value → Shared → Prop} {v : Value} {x y : Int} {t u : Tok} {c : Nat} {tk' : Nat}
    (ret : RetO P h₀ L m rest S s Q) (F : Fr h₀ L h' m) (N : News h₀ L h' news') (hm : (S, listOf #[.int x t, .int y u] c) ∈ news') (hs : ∀ p ∈ rest, p ∈ news') (h0 : 0 ≤ x) (hy : intBits y ≤ 64) (hv : P v) : Q v { s with heap := h', toks := tk' } := by
  refine ret v x y t u c h' tk' hv h0 hy F fun p hp => ?_
  rcases List.mem_cons.mp hp with rfl | hp
  · exact N _ hm
  · exact N p (hs p hp)
abbrev One3 (a b c : Int) (v : Value) : Prop := ∃ k t, v = .int k t ∧ (k = a ∨ k = b ∨ k = c)
abbrev One2 (a b : Int) (v : Value) : Prop := ∃ k t, v = .int k t ∧ (k = a ∨ k = b)
abbrev OneS (a b : Str) (v : Value) : Prop := ∃ k t, v = .str k t ∧ (k = a ∨ k = b)
theorem bits_lit8' {x : Int} (h : x.natAbs < 2 ^ 20) : intBits x ≤ 20 := intBits_le_iff.mpr h
theorem one3_of {a b c r : Int} {t : Tok} (h0 : 0 ≤ r) (h1 : r < 3) : One3 a b c (.int ([a, b, c].getD r.toNat 0) t) := by
  rcases (by omega : r = 0 ∨ r = 1 ∨ r = 2) with rfl | rfl | rfl
  · exact ⟨_, _, rfl, .inl rfl⟩
  · exact ⟨_, _, rfl, .inr (.inl rfl)⟩
  · exact ⟨_, _, rfl, .inr (.inr rfl)⟩
theorem one2_of {a b r : Int} {t : Tok} (h0 : 0 ≤ r) (h1 : r < 2) : One2 a b (.int ([a, b].getD r.toNat 0) t) := by
  rcases (by omega : r = 0 ∨ r = 1) with rfl | rfl
  · exact ⟨_, _, rfl, .inl rfl⟩
  · exact ⟨_, _, rfl, .inr rfl⟩
theorem oneS_of {a b : Str} {r : Int} {t : Tok} (h0 : 0 ≤ r) (h1 : r < 2) : OneS a b (.str ([a, b].getD r.toNat PySem.Str.empty) t) := by
  rcases (by omega : r = 0 ∨ r = 1) with rfl | rfl
  · exact ⟨_, _, rfl, .inl rfl⟩
  · exact ⟨_, _, rfl, .inr rfl⟩
theorem item_two {prog : Program} {w : World} {A : Around} {E : Value → Shared → Prop} {s : Shared} {value slice : PySem.Expr} {h₀ : Heap} {L l : Addr} {news : List (Addr × Obj)} {a b : Str} {t1 t2 u : Tok} {c : Nat} {i : Int} {Q : Value → Shared → Prop}
    (N : News h₀ L s.heap news) (hm : (l, listOf #[.str a t1, .str b t2] c) ∈ news) (h0 : 0 ≤ i) (h1 : i < 2) (h : ∀ t', Q (.str ([a, b].getD i.toNat PySem.Str.empty) t') s)
    (hs : subscripted slice false (.ref l) (.int i u) = operate [.ref l, .int i u] (getItem (.ref l) (.int i u)) := by with_unfolding_all rfl) :
    wpAny (model prog w) A (subscriptTail value slice (.ref l) (.int i u)) Q E s :=
  KTb.item_list (vs := [.str a t1, .str b t2]) (ws := [a, b]) ⟨_, (N _ hm).1, rfl, c, rfl⟩ (.cons _ _ (.cons _ _ .nil)) h0 (by simpa using h1) (by omega) (fun t' _ => h t') hs
theorem isList_keep {h h' : Heap} {A : Addr} {vs : Array Value} (x : h.IsList A vs) (k : ∀ b o, h.get? b = some o → h'.get? b = some o) : h'.IsList A vs := let ⟨o, e, r⟩ := x; ⟨o, k _ _ e, r⟩
abbrev RetP (h₀ : Heap) (L : Addr) (m : Str → Option Value) (news : List (Addr × Obj)) (s : Shared) (Q : Value → Shared → Prop) : Prop :=
  ∀ (S : Addr) (x y : Int) (t u : Tok) (c : Nat) (h' : Heap) (tk' : Nat), 0 ≤ x → intBits y ≤ 64 → Fr h₀ L h' m → News h₀ L h' ((S, listOf #[.int x t, .int y u] c) :: news) → AllLt S news → Q (.ref S) { s with heap := h', toks := tk' }
theorem end_P {h₀ h' : Heap} {L S : Addr} {m : Str → Option Value} {news news' : List (Addr × Obj)} {s : Shared} {Q : Value → Shared → Prop} {x y : Int} {t u : Tok} {c : Nat} {tk' : Nat}
    (ret : RetP h₀ L m news s Q) (F : Fr h₀ L h' m) (N : News h₀ L h' news') (hm : (S, listOf #[.int x t, .int y u] c) ∈ news') (hs : ∀ p ∈ news, p ∈ news') (lt : AllLt S news) (h0 : 0 ≤ x) (hy : intBits y ≤ 64) : Q (.ref S) { s with heap := h', toks := tk' } := by
  refine ret S x y t u c h' tk' h0 hy F (fun p hp => ?_) lt
  rcases List.mem_cons.mp hp with rfl | hp
  · exact N _ hm
  · exact N p (hs p hp)
theorem pool_0 {k : Int} {p : Prop} [Decidable p] : 0 ≤ (if -1 - k > k then -1 - k else k) * (if p then 1 else 0) := by
  refine Int.mul_nonneg ?_ ?_
  · split <;> omega
  · split <;> decide
end
section
/-- what the law asks at an angle of so many quarters -/
noncomputable def okQ (q : Int) : Bool :=
  let d := degF q
  let p := turnF d.1 d.2 (65536 * 65536)
  let t := tellF p
  let l := lawTanF (absF q)
  decide (p.1.1 ≠ 0) && decide (p.2.2 ≠ 0) && decide (0 < t.2) && decide (Int.fmod 65536 t.2 = 0) && decide (¬ t.2 * l.2 < absF (t.1 * l.2 - topF q l.1 * t.2) * 65536) && decide (t.1.natAbs < 2 ^ 64) && decide (t.2.natAbs < 2 ^ 64) && decide (absF q = 0 ∨ absF q = 180 → t.1 = q.fdiv 180 ∧ t.2 = 1)
noncomputable def okAll : Nat → Int → Bool
  | 0, _ => true
  | n + 1, q => okQ q && okAll n (q + 1)
theorem okAll_at : ∀ (n : Nat) (q : Int), okAll n q = true → ∀ k, q ≤ k → k < q + n → okQ k = true
  | 0, q, _, k, h1, h2 => by omega
  | n + 1, q, e, k, h1, h2 => by
    unfold okAll at e
    rw [Bool.and_eq_true] at e
    by_cases z : k = q
    · rw [z]; exact e.1
    · exact okAll_at n (q + 1) e.2 k (by omega) (by omega)
theorem ok_c0 : okAll 50 (-348) = true := by decide +kernel
theorem ok_c1 : okAll 50 (-298) = true := by decide +kernel
theorem ok_c2 : okAll 50 (-248) = true := by decide +kernel
theorem ok_c3 : okAll 50 (-198) = true := by decide +kernel
theorem ok_c4 : okAll 50 (-148) = true := by decide +kernel
theorem ok_c5 : okAll 50 (-98) = true := by decide +kernel
theorem ok_c6 : okAll 50 (-48) = true := by decide +kernel
theorem ok_c7 : okAll 50 (2) = true := by decide +kernel
theorem ok_c8 : okAll 50 (52) = true := by decide +kernel
theorem ok_c9 : okAll 50 (102) = true := by decide +kernel
theorem ok_c10 : okAll 50 (152) = true := by decide +kernel
theorem ok_c11 : okAll 50 (202) = true := by decide +kernel
theorem ok_c12 : okAll 50 (252) = true := by decide +kernel
theorem ok_c13 : okAll 47 (302) = true := by decide +kernel
theorem okQ_at {q : Int} (h1 : -348 ≤ q) (h2 : q ≤ 348) : okQ q = true := by
  by_cases c0 : q < -298
  · exact okAll_at _ _ ok_c0 q (by omega) (by omega)
  by_cases c1 : q < -248
  · exact okAll_at _ _ ok_c1 q (by omega) (by omega)
  by_cases c2 : q < -198
  · exact okAll_at _ _ ok_c2 q (by omega) (by omega)
  by_cases c3 : q < -148
  · exact okAll_at _ _ ok_c3 q (by omega) (by omega)
  by_cases c4 : q < -98
  · exact okAll_at _ _ ok_c4 q (by omega) (by omega)
  by_cases c5 : q < -48
  · exact okAll_at _ _ ok_c5 q (by omega) (by omega)
  by_cases c6 : q < 2
  · exact okAll_at _ _ ok_c6 q (by omega) (by omega)
  by_cases c7 : q < 52
  · exact okAll_at _ _ ok_c7 q (by omega) (by omega)
  by_cases c8 : q < 102
  · exact okAll_at _ _ ok_c8 q (by omega) (by omega)
  by_cases c9 : q < 152
  · exact okAll_at _ _ ok_c9 q (by omega) (by omega)
  by_cases c10 : q < 202
  · exact okAll_at _ _ ok_c10 q (by omega) (by omega)
  by_cases c11 : q < 252
  · exact okAll_at _ _ ok_c11 q (by omega) (by omega)
  by_cases c12 : q < 302
  · exact okAll_at _ _ ok_c12 q (by omega) (by omega)
  exact okAll_at _ _ ok_c13 q (by omega) (by omega)
theorem q_facts {q : Int} (h1 : -348 ≤ q) (h2 : q ≤ 348) : (turnF (degF q).1 (degF q).2 (65536 * 65536)).1.1 ≠ 0 ∧ (turnF (degF q).1 (degF q).2 (65536 * 65536)).2.2 ≠ 0 ∧ 0 < (tellF (turnF (degF q).1 (degF q).2 (65536 * 65536))).2 ∧ Int.fmod 65536 (tellF (turnF (degF q).1 (degF q).2 (65536 * 65536))).2 = 0 ∧
    nearP (tellF (turnF (degF q).1 (degF q).2 (65536 * 65536))).1 (tellF (turnF (degF q).1 (degF q).2 (65536 * 65536))).2 q (lawTanF (absF q)).1 (lawTanF (absF q)).2 ∧ intBits (tellF (turnF (degF q).1 (degF q).2 (65536 * 65536))).1 ≤ 500 ∧ intBits (tellF (turnF (degF q).1 (degF q).2 (65536 * 65536))).2 ≤ 500 ∧
    (absF q = 0 ∨ absF q = 180 → (tellF (turnF (degF q).1 (degF q).2 (65536 * 65536))).1 = q.fdiv 180 ∧ (tellF (turnF (degF q).1 (degF q).2 (65536 * 65536))).2 = 1) := by
  have h := okQ_at h1 h2
  unfold okQ at h
  simp only [Bool.and_eq_true, decide_eq_true_eq] at h
  obtain ⟨⟨⟨⟨⟨⟨⟨a1, a2⟩, a3⟩, a4⟩, a5⟩, a6⟩, a7⟩, a8⟩ := h
  exact ⟨a1, a2, a3, a4, a5, Nat.le_trans (intBits_le_iff.mpr a6) (by decide), Nat.le_trans (intBits_le_iff.mpr a7) (by decide), a8⟩
theorem degF_pos (n : Int) : 0 < (degF n).2 := by
  unfold degF
  split
  · exact (by decide : (0 : Int) < 1)
  · split
    · exact (by decide : (0 : Int) < 2)
    · exact (by decide : (0 : Int) < 4)
theorem degF_bits {n : Int} (h1 : -20000 ≤ n) (h2 : n ≤ 20000) : intBits (degF n).1 ≤ 64 ∧ intBits (degF n).2 ≤ 64 := by
  have e4 := Int.fdiv_eq_ediv_of_nonneg n (show (0 : Int) ≤ 4 by decide)
  have e2 := Int.fdiv_eq_ediv_of_nonneg n (show (0 : Int) ≤ 2 by decide)
  have e1 := Int.fdiv_eq_ediv_of_nonneg n (show (0 : Int) ≤ 1 by decide)
  unfold degF
  split
  · rw [e4]; exact ⟨intBits_le_64 (by omega) (by omega), (by decide +kernel : intBits (1 : Int) ≤ 64)⟩
  · split
    · rw [e2]; exact ⟨intBits_le_64 (by omega) (by omega), (by decide +kernel : intBits (2 : Int) ≤ 64)⟩
    · rw [e1]; exact ⟨intBits_le_64 (by omega) (by omega), (by decide +kernel : intBits (4 : Int) ≤ 64)⟩
theorem degF_add (n t : Int) : (degF (n + 720 * t)).1 = (degF n).1 + 180 * t * (degF n).2 ∧ (degF (n + 720 * t)).2 = (degF n).2 := by
  have e4 := fun n : Int => Int.fdiv_eq_ediv_of_nonneg n (show (0 : Int) ≤ 4 by decide)
  have e2 := fun n : Int => Int.fdiv_eq_ediv_of_nonneg n (show (0 : Int) ≤ 2 by decide)
  have e1 := fun n : Int => Int.fdiv_eq_ediv_of_nonneg n (show (0 : Int) ≤ 1 by decide)
  have m4 := fun n : Int => fmod_e (n := n) (show (0 : Int) ≤ 4 by decide)
  have m2 := fun n : Int => fmod_e (n := n) (show (0 : Int) ≤ 2 by decide)
  unfold degF
  rw [m4, m4, m2, m2, e4, e4, e2, e2, e1, e1]
  by_cases c4 : n % 4 = 0
  · rw [if_pos c4, if_pos (by omega)]; constructor <;> simp only <;> omega
  · rw [if_neg c4, if_neg (by omega)]
    by_cases c2 : n % 2 = 0
    · rw [if_pos c2, if_pos (by omega)]; constructor <;> simp only <;> omega
    · rw [if_neg c2, if_neg (by omega)]; constructor <;> simp only <;> omega
theorem fracF_negneg {t b : Int} (hb : b ≠ 0) : fracF (-t) (-b) = fracF t b := by
  by_cases h : b < 0
  · rw [fracF_neg h, fracF_pos (by omega)]
  · rw [fracF_pos h, fracF_neg (by omega), Int.neg_neg, Int.neg_neg]
theorem tell_rot2 {p : (Int × Int) × (Int × Int)} (h1 : p.1.1 ≠ 0) (h2 : p.2.2 ≠ 0) : tellF (rotF (rotF p)) = tellF p := by
  have e : fracF (-p.2.1 * p.1.2) (p.2.2 * -p.1.1) = fracF (p.2.1 * p.1.2) (p.2.2 * p.1.1) := by
    rw [Int.neg_mul, Int.mul_neg]; exact fracF_negneg (Int.mul_ne_zero h2 h1)
  unfold tellF
  simp only [rotF]
  rw [e]
theorem rotF4 (p : (Int × Int) × (Int × Int)) : rotF (rotF (rotF (rotF p))) = p := by
  obtain ⟨⟨a, b⟩, c, d⟩ := p
  simp only [rotF, Int.neg_neg]
theorem rotN_step {k : Int} (p : (Int × Int) × (Int × Int)) (h0 : 0 ≤ k) (h4 : k < 4) : rotN ((k + 2) % 4) p = rotF (rotF (rotN k p)) := by
  rcases (by omega : k = 0 ∨ k = 1 ∨ k = 2 ∨ k = 3) with rfl | rfl | rfl | rfl
  · rfl
  · rfl
  · exact (rotF4 p).symm
  · exact (rotF4 (rotF p)).symm
theorem turn_add {x y t b : Int} (hy : 0 < y) : turnF (x + 180 * t * y) y b = turnF x y b ∨ turnF (x + 180 * t * y) y b = rotF (rotF (turnF x y b)) := by
  have q1 : quartF (x + 180 * t * y) y = quartF x y + 2 * t := by
    rw [quart_eq hy, quart_eq hy, Int.fdiv_eq_ediv_of_nonneg _ (by omega), Int.fdiv_eq_ediv_of_nonneg _ (by omega), show 180 * t * y = (y * 90) * (2 * t) by
      rw [show (180 : Int) = 90 * 2 by decide]; ac_rfl, Int.add_mul_ediv_left _ _ (by omega)]
  have q2 : restF (x + 180 * t * y) y = restF x y := by
    unfold restF
    rw [q1, show (x + 180 * t * y) * 1 - 90 * (quartF x y + 2 * t) * y = x * 1 - 90 * quartF x y * y by
      rw [Int.mul_add, Int.add_mul, Int.add_mul, show 90 * (2 * t) * y = 180 * t * y by rw [← Int.mul_assoc 90 2 t]; rfl]; omega]
  unfold turnF
  rw [q1, q2, fmod_e (by decide), fmod_e (by decide)]
  by_cases c : t % 2 = 0
  · left; rw [show (quartF x y + 2 * t) % 4 = quartF x y % 4 by omega]
  · right
    rw [show (quartF x y + 2 * t) % 4 = (quartF x y % 4 + 2) % 4 by omega]
    exact rotN_step _ (by omega) (by omega)
theorem deg_facts {q t : Int} (h1 : -348 ≤ q) (h2 : q ≤ 348) : (turnF (degF (q + 720 * t)).1 (degF (q + 720 * t)).2 (65536 * 65536)).1.1 ≠ 0 ∧ tellF (turnF (degF (q + 720 * t)).1 (degF (q + 720 * t)).2 (65536 * 65536)) = tellF (turnF (degF q).1 (degF q).2 (65536 * 65536)) := by
  obtain ⟨a1, a2, _⟩ := q_facts h1 h2
  obtain ⟨d1, d2⟩ := degF_add q t
  rw [d1, d2]
  rcases turn_add (x := (degF q).1) (t := t) (b := 65536 * 65536) (degF_pos q) with e | e
  · rw [e]; exact ⟨a1, rfl⟩
  · rw [e]
    refine ⟨?_, tell_rot2 a1 a2⟩
    show -(turnF (degF q).1 (degF q).2 (65536 * 65536)).1.1 ≠ 0
    omega
theorem tell_45 : tellF (turnF 45 1 (65536 * 65536)) = (1, 1) := by decide +kernel
theorem nz_45 : (turnF 45 1 (65536 * 65536)).1.1 ≠ 0 := by decide +kernel
noncomputable def okR : Nat → Bool
  | 0 => true
  | n + 1 => decide ((turnF (90 * (2 * (n : Int) - 41)) 1 (65536 * 65536)).1.1 = 0 ∧ (turnF (90 * (2 * (n : Int) - 41)) 1 10000000000000000000000000000000000000000).1.1 = 0) && okR n
theorem okR_at : ∀ (k : Nat), okR k = true → ∀ n, n < k → (turnF (90 * (2 * (n : Int) - 41)) 1 (65536 * 65536)).1.1 = 0 ∧ (turnF (90 * (2 * (n : Int) - 41)) 1 10000000000000000000000000000000000000000).1.1 = 0
  | 0, _, n, h => absurd h (Nat.not_lt_zero n)
  | k + 1, e, n, h => by
    unfold okR at e
    rw [Bool.and_eq_true, decide_eq_true_eq] at e
    rcases Nat.lt_or_ge n k with q | q
    · exact okR_at k e.2 n q
    · rw [show n = k by omega]; exact e.1
theorem right_facts {r : Int} (h0 : 0 ≤ r) (h1 : r < 41) : (turnF (90 * (2 * r - 41)) 1 (65536 * 65536)).1.1 = 0 ∧ (turnF (90 * (2 * r - 41)) 1 10000000000000000000000000000000000000000).1.1 = 0 := by
  have h := okR_at 41 (by decide +kernel) r.toNat (by omega)
  rw [show ((r.toNat : Nat) : Int) = r by omega] at h
  exact h
end
section
section
variable {prog : Program} {w : World} {A : Around} {E : Value → Shared → Prop} {s : Shared}
theorem mul_q {k1 k2 r0 : Int} {t u : Tok} {Q : Value → Shared → Prop} (h3 : k1 = r0 ∨ k1 = 0 ∨ k1 = 180) (hr0 : 0 ≤ r0) (hr1 : r0 < 349) (h2 : k2 = 1 ∨ k2 = -1)
    (h : ∀ q tk, -348 ≤ q → q ≤ 348 → Q (.int q tk) { s with toks := s.toks + 1 }) : wpAny (model prog w) A (binaryOp .Mult (.int k1 t) (.int k2 u)) Q E s := by
  refine mul_bits (k := 64) (n := 64) (intBits_le_64 (by omega) (by omega)) (intBits_le_64 (by omega) (by omega)) (by decide) (h _ _ ?_ ?_)
  · rcases h2 with rfl | rfl <;> omega
  · rcases h2 with rfl | rfl <;> omega
theorem bits_50 {n : Int} (h1 : -20000 ≤ n) (h2 : n ≤ 20000) : intBits n ≤ 50 := intBits_le_iff.mpr (by
  have : (20000 : Nat) < 2 ^ 50 := by decide
  omega)
theorem reads_K {K : Frag} {h₀ h : Heap} {L A : Addr} {m : Str → Option Value} {x y : Int} {t u : Tok} {c : Nat} (F : Fr h₀ L h m) (X : K.In h₀) (e : K.lookup A = some (tup2 x y t u c)) : Reads h (.ref A) (.tuple [.int x, .int y]) [] :=
  reads_tuple_at (F.keep _ _ (X _ _ e)) rfl rfl (readsAll_cons_val (Reads.int _ _) (readsAll_cons_val (Reads.int _ _) ReadsAll.nil))
theorem ne_no {a b : Value} {da db : PyData} {as bs : List Addr} {Q : Value → Shared → Prop} (ra : Reads s.heap a da as) (rb : Reads s.heap b db bs) (ha : SeqAt.shaped da = true) (hb : SeqAt.shaped db = true) (hu : A.units + 64 < cLine)
    (he : PyData.eqv da db = true) (h : Q (.bool false) s) : wpAny (model prog w) A (compareOp .NotEq a b) Q E s := ne_dataH ra rb ha hb hu (by rw [he]; exact h)
theorem eq_yes {a b : Value} {da db : PyData} {as bs : List Addr} {Q : Value → Shared → Prop} (ra : Reads s.heap a da as) (rb : Reads s.heap b db bs) (ha : SeqAt.shaped da = true) (hb : SeqAt.shaped db = true) (hu : A.units + 64 < cLine)
    (he : PyData.eqv da db = true) (h : Q (.bool true) s) : wpAny (model prog w) A (compareOp .Eq a b) Q E s := eq_dataH ra rb ha hb hu (by rw [he]; exact h)
end
theorem news_pick2 {h₀ h : Heap} {L : Addr} {p q : Addr × Obj} {news r1 rest : List (Addr × Obj)} (N : News h₀ L h news) (pk1 : Pick p news r1) (pk2 : Pick q r1 rest) : News h₀ L h (p :: q :: rest) := fun x hx => by
  rcases List.mem_cons.mp hx with rfl | hx
  · exact pk1.news N _ (.head _)
  · exact pk1.news N _ (.tail _ (pk2.mem _ hx))
theorem r_bits {r top : Int} (h0 : 0 ≤ r) (h1 : r < top) (ht : top ≤ 100000) : intBits r ≤ 64 := intBits_le_64 (by omega) (by omega)
theorem one3_bits {k r : Int} (h : k = r ∨ k = 0 ∨ k = 180) (b : intBits r ≤ 64) : intBits k ≤ 64 := by
  rcases h with rfl | rfl | rfl
  · exact b
  · decide +kernel
  · decide +kernel
theorem one2_bits {k : Int} (h : k = 1 ∨ k = -1) : intBits k ≤ 64 := by
  rcases h with rfl | rfl
  · decide +kernel
  · decide +kernel
theorem turns_bits {k r : Int} (h : k = r - 20 ∨ k = 0) (h0 : 0 ≤ r) (h1 : r < 41) : intBits k ≤ 64 := intBits_le_64 (by omega) (by omega)
theorem deg_50 {q k r : Int} (hq1 : -348 ≤ q) (hq2 : q ≤ 348) (h : k = r - 20 ∨ k = 0) (h0 : 0 ≤ r) (h1 : r < 41) : intBits (q + 720 * k) ≤ 50 := bits_50 (by omega) (by omega)
theorem deg_50' {q : Int} (hq1 : -348 ≤ q) (hq2 : q ≤ 348) : intBits q ≤ 50 := bits_50 (by omega) (by omega)
theorem deg_64 {q k r : Int} (hq1 : -348 ≤ q) (hq2 : q ≤ 348) (h : k = r - 20 ∨ k = 0) (h0 : 0 ≤ r) (h1 : r < 41) : intBits (degF (q + 720 * k)).1 ≤ 64 ∧ intBits (degF (q + 720 * k)).2 ≤ 64 := degF_bits (by omega) (by omega)
theorem deg_64' {q : Int} (hq1 : -348 ≤ q) (hq2 : q ≤ 348) : intBits (degF q).1 ≤ 64 ∧ intBits (degF q).2 ≤ 64 := degF_bits (by omega) (by omega)
theorem right_bits {r : Int} (h0 : 0 ≤ r) (h1 : r < 41) : intBits (90 * (2 * r - 41)) ≤ 64 := intBits_le_64 (by omega) (by omega)
theorem len63 {n : Nat} (h : ¬ ((63 : Nat) : Int) < (n : Int)) : n ≤ 63 := by omega
end
local macro_rules | `(tactic| walk_at "MySub") => `(tactic| (intro p9 h9; repeat (first | (with_reducible exact h9) | (with_reducible refine List.mem_cons_of_mem _ ?_))))
local macro_rules | `(tactic| bits_by_make) => `(tactic| first
  | (with_reducible assumption)
  | ((with_reducible apply bits_gcd); (first | omega | assumption); bits_by_make)
  | ((with_reducible apply bits_frac1); bits_by_make)
  | ((with_reducible apply bits_frac2); bits_by_make)
  | exact bits_lit8 (by decide +kernel)
  | exact bits_lit20 (by decide +kernel)
  | exact bits_lit (by decide +kernel))
local macro_rules | `(tactic| walk_at "binaryOp FloorDiv int int") => `(tactic| (k_here; (with_reducible refine' fdiv_bits ?fb ?fn ?f8 ?_); (case fb => first | decide | omega); (case fn => bits_by_make); (case f8 => decide)))
local macro_rules | `(tactic| walk_at "binaryOp Mult int int") => `(tactic| (k_here; (with_reducible refine' mul_bits ?fa ?fb ?fn ?_); (case fa => bits_by_make); (case fb => bits_by_make); (case fn => decide)))
local macro_rules | `(tactic| walk_at "exec Raise some none") => `(tactic| (exfalso; omega))
local macro_rules | `(tactic| walk_at "subscriptTail") => `(tactic| (k_here; (with_reducible show wpAny _ _ (subscriptTail _ _ (Value.ref _) (Value.int _ _)) _ _ _); (first
   | ((with_reducible refine' tup_fst ?tT ?tF ?tN ?tS ?_); (case tF => k_asm); (case tN => k_asm); (case tT => assumption); (case tS => walk_at "MySub"); k_whole; intro t9)
   | ((with_reducible refine' tup_snd ?tT ?tF ?tN ?tS ?_); (case tF => k_asm); (case tN => k_asm); (case tT => assumption); (case tS => walk_at "MySub"); k_whole; intro t9))))
local macro_rules | `(tactic| walk_at "MyEnter2") => `(tactic| (refine' code_def ?k1 ?k2 ?k3 ?k4 ?k5 ?kA ?kF ?kK ?k6 ?k7 ?k8 ?k9 ?kB ?_ ?c2 ?c3 ?c4 ?c5; (case kA => exact rfl); (case kF => exact rfl); (case kK => first | exact rfl | assumption); (case k1 => k_asm); (case k2 => k_asm); (case k3 => k_asm); (case k4 => k_asm); (case k5 => k_asm); (case k6 => k_is); (case k7 => k_is); (case k8 => ktr_room); (case k9 => first | exact BindsTo.of_eq rfl | exact binds_K (by k_in) rfl (by k_is) rfl rfl rfl); (case c5 => decide); (case kB => exact locs rfl); (case c2 => exact rfl); (case c3 => exact rfl); (case c4 => exact rfl); k_whole; intro g' L' h' FG' F' N' B' X' T'; (try dsimp only); (try (have q9 := TupIn.mono (by with_reducible assumption) (Fr.keep FG') (fun _ e => e))); (try k_fold)))
local macro_rules | `(tactic| walk_at "last call ref") => `(tactic| (k_here; k_dflt (first
  | (refine' call_cls ?k1 ?k2 ?k3 ?k4 ?k5 ?k6 ?_; (case k1 => k_asm); (case k2 => k_asm); (case k3 => k_asm); (case k4 => k_is); (case k5 => k_is); (case k6 => k_is); k_whole; intro x' d' h' F' N' l1 l2; (try k_lt l1); (try k_lt2 l2); (try k_sweep); walk_at "MyEnter2")
  | (refine wpAny_call ?_; walk_at "MyEnter2"))))
local macro_rules | `(tactic| walk_at "newTuple") => `(tactic| (k_here; dsimp only; walk1))
local macro_rules | `(tactic| walk_at "storeName") => `(tactic| (k_here; dsimp only; walk1))
section
section
variable {w : World} {p : Program} {loose : List Str} {mean : ExcName → Option Value} {mg mb : Str → Option Value} {dp un : Nat} {gd : Option (List Code)} {cn : Str} {cs : Scope} {a : Addr} {ccd : Value} {cl : List (Str × Addr)} {outer : List Env} {A₀ : Around} {base h₀ : Heap} {L : Addr} {m : Str → Option Value} {news : List (Addr × Obj)} {s : Shared} {Q E : Value → Shared → Prop}
theorem c_gcd {x y : Int} {tx ty : Tok} (B : Below A₀ base outer h₀) (F : Fr h₀ L s.heap m) (X : (Mine.hd.heap_1 w.params).In h₀) (N : News h₀ L s.heap news) (T : Top p loose mean mg mb h₀) (hk : cs.kind = .function) (hd : dp + 1 < recursionLimit) (hu : un + 8 < cLine) (hy : 0 < y)
    (ret : ∀ t h' tk', 0 < (Int.gcd x y : Int) → Fr h₀ L h' m → News h₀ L h' news → Q (.int (Int.gcd x y) t) { s with heap := h', toks := tk' }) :
    wpAny (model Challenge.rw_xm0723_01.row.prog w) (ktrTop dp un gd cn cs L a ccd cl outer) (call (.ref 74) [.int x tx, .int y ty]) Q E s := by
  w_on
  refine wpAny_call ?_
  k_dflt (((refine' code_def ?k1 ?k2 ?k3 ?k4 ?k5 ?kA ?kF ?kK ?k6 ?k7 ?k8 ?k9 ?kB ?_ ?c2 ?c3 ?c4 ?c5; (case kA => exact rfl); (case kF => exact rfl); (case kK => assumption); (case k1 => k_asm); (case k2 => k_asm); (case k3 => k_asm); (case k4 => k_asm); (case k5 => k_asm); (case k6 => k_is); (case k7 => k_is); (case k8 => ktr_room); (case k9 => first | exact BindsTo.of_eq rfl | exact binds_K (by k_in) rfl (by k_is) rfl rfl rfl); (case c5 => decide); (case kB => exact locs rfl); (case c2 => exact rfl); (case c3 => exact rfl); (case c4 => exact rfl); k_whole; intro g' L' h' FG' F' N' B' X' T'; (try dsimp only); (try k_fold))))
  k_with_none
  k_with "state" => first | exact gcd_st0 (by omega) | exact gcd_st1 (by assumption) (by assumption) (by assumption)
  k_with "measure" => exact gcd_meas (by assumption)
  k_with "exec While Compare cons nil" => k_while_given ["one", "other"] (fun one other script a b => 0 ≤ a ∧ 0 ≤ b ∧ Int.gcd a b = Int.gcd one other) (fun one other script a b => b.toNat) "first" "second"
  (repeat' (first | (k_unfold; (try dsimp only)) | (k_end; wrow_close) | walk1 | (dsimp only; walk1) | (leave1; walk_say "STEP leave1"; try dsimp only) | fail "no step"))
  all_goals (refine' cb_retI (Q := Q) (s := s) (fun t h' tk' => ret t h' tk' (gcd_pos' hy)) ?e1 ?e2 ?e3; (case e2 => k_asm); (case e3 => first | k_asm | (refine' cb_drop ?a ?b; (case a => assumption); (case b => ((intro p9 h9; repeat (first | (with_reducible exact h9) | (with_reducible refine List.mem_cons_of_mem _ ?_))))))); (case e1 => exact gcd_st2 (by assumption) (by assumption) (by assumption) (by assumption)))
  k_with_none
end
section
variable {w : World} {p : Program} {loose : List Str} {mean : ExcName → Option Value} {mg mb : Str → Option Value} {dp un : Nat} {gd : Option (List Code)} {cn : Str} {cs : Scope} {a : Addr} {ccd : Value} {cl : List (Str × Addr)} {outer : List Env} {A₀ : Around} {base h₀ : Heap} {L : Addr} {m : Str → Option Value} {news : List (Addr × Obj)} {s : Shared} {Q E : Value → Shared → Prop}
theorem c_frac {x y : Int} {tx ty : Tok} (B : Below A₀ base outer h₀) (F : Fr h₀ L s.heap m) (X : (Mine.hd.heap_1 w.params).In h₀) (N : News h₀ L s.heap news) (T : Top p loose mean mg mb h₀) (hk : cs.kind = .function) (hd : dp + 2 < recursionLimit) (hu : un + 16 < cLine) (hy : y ≠ 0) (hb : intBits y ≤ 7000)
    (ret : RetT h₀ L m news s Q (fracF x y).1 (fracF x y).2) :
    wpAny (model Challenge.rw_xm0723_01.row.prog w) (ktrTop dp un gd cn cs L a ccd cl outer) (call (.ref 82) [.int x tx, .int y ty]) Q E s := by
  w_on
  refine wpAny_call ?_
  k_dflt (((refine' code_def ?k1 ?k2 ?k3 ?k4 ?k5 ?kA ?kF ?kK ?k6 ?k7 ?k8 ?k9 ?kB ?_ ?c2 ?c3 ?c4 ?c5; (case kA => exact rfl); (case kF => exact rfl); (case kK => assumption); (case k1 => k_asm); (case k2 => k_asm); (case k3 => k_asm); (case k4 => k_asm); (case k5 => k_asm); (case k6 => k_is); (case k7 => k_is); (case k8 => ktr_room); (case k9 => first | exact BindsTo.of_eq rfl | exact binds_K (by k_in) rfl (by k_is) rfl rfl rfl); (case c5 => decide); (case kB => exact locs rfl); (case c2 => exact rfl); (case c3 => exact rfl); (case c4 => exact rfl); k_whole; intro g' L' h' FG' F' N' B' X' T'; (try dsimp only); (try k_fold))))
  (repeat' (first | (k_unfold; (try dsimp only)) | ((with_reducible show wpAny _ _ (call (Value.ref _) _) _ _ _); first | (k_here; (with_reducible show wpAny _ _ (call (Value.ref 74) _) _ _ _); k_dflt (refine' c_gcd (by k_asm) (by k_asm) (by k_asm) (by k_asm) (by k_asm) (by first | exact rfl | assumption) (by ktr_room) (by ktr_units) (by ((first | assumption | omega | exact fracF_den (by first | assumption | omega)))) ?_; k_whole; (((intro t9 h9 tk9 p9 F9 N9; (try dsimp only); (try k_sweep); (try k_fold))))))) | (k_end; wrow_close) | walk1 | (dsimp only; walk1) | (leave1; walk_say "STEP leave1"; try dsimp only) | fail "no step"))
  all_goals (((refine' end_T (by with_reducible assumption) (by k_asm) (by k_asm) (by k_mem) (by ((intro p9 h9; repeat (first | (with_reducible exact h9) | (with_reducible refine List.mem_cons_of_mem _ ?_))))) (by (first | tbn_find | exact allLt_of (by assumption) | kcu_lt)) ?_ ?_)))
  all_goals first | rw [fracF_neg (by assumption)] | rw [fracF_pos (by assumption)]
end
end
section
local macro_rules | `(tactic| walk_at "none") => `(tactic| skip)
section
variable {w : World} {p : Program} {loose : List Str} {mean : ExcName → Option Value} {mg mb : Str → Option Value} {dp un : Nat} {gd : Option (List Code)} {cn : Str} {cs : Scope} {a : Addr} {ccd : Value} {cl : List (Str × Addr)} {outer : List Env} {A₀ : Around} {base h₀ : Heap} {L : Addr} {m : Str → Option Value} {news : List (Addr × Obj)} {s : Shared} {Q E : Value → Shared → Prop}
theorem c_minus {A1 A2 : Addr} {a0 a1 b0 b1 : Int} (B : Below A₀ base outer h₀) (F : Fr h₀ L s.heap m) (X : (Mine.hd.heap_1 w.params).In h₀) (N : News h₀ L s.heap news) (T : Top p loose mean mg mb h₀) (hk : cs.kind = .function) (hd : dp + 3 < recursionLimit) (hu : un + 24 < cLine) (h1 : TupIn h₀ news A1 a0 a1) (h2 : TupIn h₀ news A2 b0 b1) (hp1 : 0 < a1) (hp2 : 0 < b1) (s1 : intBits a0 ≤ 3000) (s2 : intBits a1 ≤ 3000) (s3 : intBits b0 ≤ 3000) (s4 : intBits b1 ≤ 3000) (ret : RetT h₀ L m news s Q (fracF (a0 * b1 - b0 * a1) (a1 * b1)).1 (fracF (a0 * b1 - b0 * a1) (a1 * b1)).2) :
    wpAny (model Challenge.rw_xm0723_01.row.prog w) (ktrTop dp un gd cn cs L a ccd cl outer) (call (.ref 89) [.ref A1, .ref A2]) Q E s := by
  have hz : a1 * b1 ≠ 0 := Int.ne_of_gt (Int.mul_pos hp1 hp2)
  w_on
  refine wpAny_call ?_
  k_dflt (((refine' code_def ?k1 ?k2 ?k3 ?k4 ?k5 ?kA ?kF ?kK ?k6 ?k7 ?k8 ?k9 ?kB ?_ ?c2 ?c3 ?c4 ?c5; (case kA => exact rfl); (case kF => exact rfl); (case kK => assumption); (case k1 => k_asm); (case k2 => k_asm); (case k3 => k_asm); (case k4 => k_asm); (case k5 => k_asm); (case k6 => k_is); (case k7 => k_is); (case k8 => ktr_room); (case k9 => first | exact BindsTo.of_eq rfl | exact binds_K (by k_in) rfl (by k_is) rfl rfl rfl); (case c5 => decide); (case kB => exact locs rfl); (case c2 => exact rfl); (case c3 => exact rfl); (case c4 => exact rfl); k_whole; intro g' L' h' FG' F' N' B' X' T'; (try dsimp only); (try k_fold))))
  (rename Fr h₀ _ _ _ => FG)
  replace h1 := h1.mono FG.keep (fun _ e => e)
  replace h2 := h2.mono FG.keep (fun _ e => e)
  (repeat' (first | (k_unfold; (try dsimp only)) | ((with_reducible show wpAny _ _ (call (Value.ref _) _) _ _ _); first | (k_here; (with_reducible show wpAny _ _ (call (Value.ref 82) _) _ _ _); k_dflt (refine' c_frac (by k_asm) (by k_asm) (by k_asm) (by k_asm) (by k_asm) (by first | exact rfl | assumption) (by ktr_room) (by ktr_units) (by ((first | assumption | omega | exact fracF_den (by first | assumption | omega)))) (Nat.le_trans (by bits_by_make) (by decide)) ?_; k_whole; (((unfold RetT; intro D9 t9 u9 c9 h9 tk9 F9 N9 l9; (try simp only [AllLt, and_true] at l9); (try dsimp only); (try k_sweep); (try k_fold)))))) | (k_here; (with_reducible show wpAny _ _ (call (Value.ref 74) _) _ _ _); k_dflt (refine' c_gcd (by k_asm) (by k_asm) (by k_asm) (by k_asm) (by k_asm) (by first | exact rfl | assumption) (by ktr_room) (by ktr_units) (by ((first | assumption | omega | exact fracF_den (by first | assumption | omega)))) ?_; k_whole; (((intro t9 h9 tk9 p9 F9 N9; (try dsimp only); (try k_sweep); (try k_fold))))))) | (k_end; wrow_close) | walk1 | (dsimp only; walk1) | (leave1; walk_say "STEP leave1"; try dsimp only) | fail "no step"))
  all_goals (((refine' end_T (by with_reducible assumption) (by k_asm) (by k_asm) (by k_mem) (by ((intro p9 h9; repeat (first | (with_reducible exact h9) | (with_reducible refine List.mem_cons_of_mem _ ?_))))) (by (first | tbn_find | exact allLt_of (by assumption) | kcu_lt)) ?_ ?_)))
  all_goals rfl
theorem c_times {A1 A2 : Addr} {a0 a1 b0 b1 : Int} (B : Below A₀ base outer h₀) (F : Fr h₀ L s.heap m) (X : (Mine.hd.heap_1 w.params).In h₀) (N : News h₀ L s.heap news) (T : Top p loose mean mg mb h₀) (hk : cs.kind = .function) (hd : dp + 3 < recursionLimit) (hu : un + 24 < cLine) (h1 : TupIn h₀ news A1 a0 a1) (h2 : TupIn h₀ news A2 b0 b1) (hp1 : 0 < a1) (hp2 : 0 < b1) (s1 : intBits a0 ≤ 3000) (s2 : intBits a1 ≤ 3000) (s3 : intBits b0 ≤ 3000) (s4 : intBits b1 ≤ 3000) (ret : RetT h₀ L m news s Q (fracF (a0 * b0) (a1 * b1)).1 (fracF (a0 * b0) (a1 * b1)).2) :
    wpAny (model Challenge.rw_xm0723_01.row.prog w) (ktrTop dp un gd cn cs L a ccd cl outer) (call (.ref 96) [.ref A1, .ref A2]) Q E s := by
  have hz : a1 * b1 ≠ 0 := Int.ne_of_gt (Int.mul_pos hp1 hp2)
  w_on
  refine wpAny_call ?_
  k_dflt (((refine' code_def ?k1 ?k2 ?k3 ?k4 ?k5 ?kA ?kF ?kK ?k6 ?k7 ?k8 ?k9 ?kB ?_ ?c2 ?c3 ?c4 ?c5; (case kA => exact rfl); (case kF => exact rfl); (case kK => assumption); (case k1 => k_asm); (case k2 => k_asm); (case k3 => k_asm); (case k4 => k_asm); (case k5 => k_asm); (case k6 => k_is); (case k7 => k_is); (case k8 => ktr_room); (case k9 => first | exact BindsTo.of_eq rfl | exact binds_K (by k_in) rfl (by k_is) rfl rfl rfl); (case c5 => decide); (case kB => exact locs rfl); (case c2 => exact rfl); (case c3 => exact rfl); (case c4 => exact rfl); k_whole; intro g' L' h' FG' F' N' B' X' T'; (try dsimp only); (try k_fold))))
  (rename Fr h₀ _ _ _ => FG)
  replace h1 := h1.mono FG.keep (fun _ e => e)
  replace h2 := h2.mono FG.keep (fun _ e => e)
  (repeat' (first | (k_unfold; (try dsimp only)) | ((with_reducible show wpAny _ _ (call (Value.ref _) _) _ _ _); first | (k_here; (with_reducible show wpAny _ _ (call (Value.ref 82) _) _ _ _); k_dflt (refine' c_frac (by k_asm) (by k_asm) (by k_asm) (by k_asm) (by k_asm) (by first | exact rfl | assumption) (by ktr_room) (by ktr_units) (by ((first | assumption | omega | exact fracF_den (by first | assumption | omega)))) (Nat.le_trans (by bits_by_make) (by decide)) ?_; k_whole; (((unfold RetT; intro D9 t9 u9 c9 h9 tk9 F9 N9 l9; (try simp only [AllLt, and_true] at l9); (try dsimp only); (try k_sweep); (try k_fold)))))) | (k_here; (with_reducible show wpAny _ _ (call (Value.ref 74) _) _ _ _); k_dflt (refine' c_gcd (by k_asm) (by k_asm) (by k_asm) (by k_asm) (by k_asm) (by first | exact rfl | assumption) (by ktr_room) (by ktr_units) (by ((first | assumption | omega | exact fracF_den (by first | assumption | omega)))) ?_; k_whole; (((intro t9 h9 tk9 p9 F9 N9; (try dsimp only); (try k_sweep); (try k_fold))))))) | (k_end; wrow_close) | walk1 | (dsimp only; walk1) | (leave1; walk_say "STEP leave1"; try dsimp only) | fail "no step"))
  all_goals (((refine' end_T (by with_reducible assumption) (by k_asm) (by k_asm) (by k_mem) (by ((intro p9 h9; repeat (first | (with_reducible exact h9) | (with_reducible refine List.mem_cons_of_mem _ ?_))))) (by (first | tbn_find | exact allLt_of (by assumption) | kcu_lt)) ?_ ?_)))
  all_goals rfl
theorem c_divided {A1 A2 : Addr} {a0 a1 b0 b1 : Int} (B : Below A₀ base outer h₀) (F : Fr h₀ L s.heap m) (X : (Mine.hd.heap_1 w.params).In h₀) (N : News h₀ L s.heap news) (T : Top p loose mean mg mb h₀) (hk : cs.kind = .function) (hd : dp + 3 < recursionLimit) (hu : un + 24 < cLine) (h1 : TupIn h₀ news A1 a0 a1) (h2 : TupIn h₀ news A2 b0 b1) (hp1 : 0 < a1) (hp2 : b0 ≠ 0) (s1 : intBits a0 ≤ 3000) (s2 : intBits a1 ≤ 3000) (s3 : intBits b0 ≤ 3000) (s4 : intBits b1 ≤ 3000) (ret : RetT h₀ L m news s Q (fracF (a0 * b1) (a1 * b0)).1 (fracF (a0 * b1) (a1 * b0)).2) :
    wpAny (model Challenge.rw_xm0723_01.row.prog w) (ktrTop dp un gd cn cs L a ccd cl outer) (call (.ref 103) [.ref A1, .ref A2]) Q E s := by
  have hz : a1 * b0 ≠ 0 := Int.mul_ne_zero (Int.ne_of_gt hp1) hp2
  w_on
  refine wpAny_call ?_
  k_dflt (((refine' code_def ?k1 ?k2 ?k3 ?k4 ?k5 ?kA ?kF ?kK ?k6 ?k7 ?k8 ?k9 ?kB ?_ ?c2 ?c3 ?c4 ?c5; (case kA => exact rfl); (case kF => exact rfl); (case kK => assumption); (case k1 => k_asm); (case k2 => k_asm); (case k3 => k_asm); (case k4 => k_asm); (case k5 => k_asm); (case k6 => k_is); (case k7 => k_is); (case k8 => ktr_room); (case k9 => first | exact BindsTo.of_eq rfl | exact binds_K (by k_in) rfl (by k_is) rfl rfl rfl); (case c5 => decide); (case kB => exact locs rfl); (case c2 => exact rfl); (case c3 => exact rfl); (case c4 => exact rfl); k_whole; intro g' L' h' FG' F' N' B' X' T'; (try dsimp only); (try k_fold))))
  (rename Fr h₀ _ _ _ => FG)
  replace h1 := h1.mono FG.keep (fun _ e => e)
  replace h2 := h2.mono FG.keep (fun _ e => e)
  (repeat' (first | (k_unfold; (try dsimp only)) | ((with_reducible show wpAny _ _ (call (Value.ref _) _) _ _ _); first | (k_here; (with_reducible show wpAny _ _ (call (Value.ref 82) _) _ _ _); k_dflt (refine' c_frac (by k_asm) (by k_asm) (by k_asm) (by k_asm) (by k_asm) (by first | exact rfl | assumption) (by ktr_room) (by ktr_units) (by ((first | assumption | omega | exact fracF_den (by first | assumption | omega)))) (Nat.le_trans (by bits_by_make) (by decide)) ?_; k_whole; (((unfold RetT; intro D9 t9 u9 c9 h9 tk9 F9 N9 l9; (try simp only [AllLt, and_true] at l9); (try dsimp only); (try k_sweep); (try k_fold)))))) | (k_here; (with_reducible show wpAny _ _ (call (Value.ref 74) _) _ _ _); k_dflt (refine' c_gcd (by k_asm) (by k_asm) (by k_asm) (by k_asm) (by k_asm) (by first | exact rfl | assumption) (by ktr_room) (by ktr_units) (by ((first | assumption | omega | exact fracF_den (by first | assumption | omega)))) ?_; k_whole; (((intro t9 h9 tk9 p9 F9 N9; (try dsimp only); (try k_sweep); (try k_fold))))))) | (k_end; wrow_close) | walk1 | (dsimp only; walk1) | (leave1; walk_say "STEP leave1"; try dsimp only) | fail "no step"))
  all_goals (((refine' end_T (by with_reducible assumption) (by k_asm) (by k_asm) (by k_mem) (by ((intro p9 h9; repeat (first | (with_reducible exact h9) | (with_reducible refine List.mem_cons_of_mem _ ?_))))) (by (first | tbn_find | exact allLt_of (by assumption) | kcu_lt)) ?_ ?_)))
  all_goals rfl
theorem c_negated {A1 : Addr} {a0 a1 : Int} (B : Below A₀ base outer h₀) (F : Fr h₀ L s.heap m) (X : (Mine.hd.heap_1 w.params).In h₀) (N : News h₀ L s.heap news) (T : Top p loose mean mg mb h₀) (hk : cs.kind = .function) (hd : dp + 1 < recursionLimit) (hu : un + 8 < cLine) (h1 : TupIn h₀ news A1 a0 a1) (ret : RetT h₀ L m news s Q (-a0) a1) :
    wpAny (model Challenge.rw_xm0723_01.row.prog w) (ktrTop dp un gd cn cs L a ccd cl outer) (call (.ref 110) [.ref A1]) Q E s := by
  w_on
  refine wpAny_call ?_
  k_dflt (((refine' code_def ?k1 ?k2 ?k3 ?k4 ?k5 ?kA ?kF ?kK ?k6 ?k7 ?k8 ?k9 ?kB ?_ ?c2 ?c3 ?c4 ?c5; (case kA => exact rfl); (case kF => exact rfl); (case kK => assumption); (case k1 => k_asm); (case k2 => k_asm); (case k3 => k_asm); (case k4 => k_asm); (case k5 => k_asm); (case k6 => k_is); (case k7 => k_is); (case k8 => ktr_room); (case k9 => first | exact BindsTo.of_eq rfl | exact binds_K (by k_in) rfl (by k_is) rfl rfl rfl); (case c5 => decide); (case kB => exact locs rfl); (case c2 => exact rfl); (case c3 => exact rfl); (case c4 => exact rfl); k_whole; intro g' L' h' FG' F' N' B' X' T'; (try dsimp only); (try k_fold))))
  (rename Fr h₀ _ _ _ => FG)
  replace h1 := h1.mono FG.keep (fun _ e => e)
  (repeat' (first | (k_unfold; (try dsimp only)) | ((with_reducible show wpAny _ _ (call (Value.ref _) _) _ _ _); first | (k_here; (with_reducible show wpAny _ _ (call (Value.ref 82) _) _ _ _); k_dflt (refine' c_frac (by k_asm) (by k_asm) (by k_asm) (by k_asm) (by k_asm) (by first | exact rfl | assumption) (by ktr_room) (by ktr_units) (by ((first | assumption | omega | exact fracF_den (by first | assumption | omega)))) (Nat.le_trans (by bits_by_make) (by decide)) ?_; k_whole; (((unfold RetT; intro D9 t9 u9 c9 h9 tk9 F9 N9 l9; (try simp only [AllLt, and_true] at l9); (try dsimp only); (try k_sweep); (try k_fold)))))) | (k_here; (with_reducible show wpAny _ _ (call (Value.ref 74) _) _ _ _); k_dflt (refine' c_gcd (by k_asm) (by k_asm) (by k_asm) (by k_asm) (by k_asm) (by first | exact rfl | assumption) (by ktr_room) (by ktr_units) (by ((first | assumption | omega | exact fracF_den (by first | assumption | omega)))) ?_; k_whole; (((intro t9 h9 tk9 p9 F9 N9; (try dsimp only); (try k_sweep); (try k_fold))))))) | (k_end; wrow_close) | walk1 | (dsimp only; walk1) | (leave1; walk_say "STEP leave1"; try dsimp only) | fail "no step"))
  all_goals (((refine' end_T (by with_reducible assumption) (by k_asm) (by k_asm) (by k_mem) (by ((intro p9 h9; repeat (first | (with_reducible exact h9) | (with_reducible refine List.mem_cons_of_mem _ ?_))))) (by (first | tbn_find | exact allLt_of (by assumption) | kcu_lt)) ?_ ?_)))
  all_goals rfl
theorem c_sign {A1 : Addr} {a0 a1 : Int} (B : Below A₀ base outer h₀) (F : Fr h₀ L s.heap m) (X : (Mine.hd.heap_1 w.params).In h₀) (N : News h₀ L s.heap news) (T : Top p loose mean mg mb h₀) (hk : cs.kind = .function) (hd : dp + 1 < recursionLimit) (hu : un + 8 < cLine) (h1 : TupIn h₀ news A1 a0 a1) (ret : RetI h₀ L m news s Q (signF a0)) :
    wpAny (model Challenge.rw_xm0723_01.row.prog w) (ktrTop dp un gd cn cs L a ccd cl outer) (call (.ref 117) [.ref A1]) Q E s := by
  w_on
  refine wpAny_call ?_
  k_dflt (((refine' code_def ?k1 ?k2 ?k3 ?k4 ?k5 ?kA ?kF ?kK ?k6 ?k7 ?k8 ?k9 ?kB ?_ ?c2 ?c3 ?c4 ?c5; (case kA => exact rfl); (case kF => exact rfl); (case kK => assumption); (case k1 => k_asm); (case k2 => k_asm); (case k3 => k_asm); (case k4 => k_asm); (case k5 => k_asm); (case k6 => k_is); (case k7 => k_is); (case k8 => ktr_room); (case k9 => first | exact BindsTo.of_eq rfl | exact binds_K (by k_in) rfl (by k_is) rfl rfl rfl); (case c5 => decide); (case kB => exact locs rfl); (case c2 => exact rfl); (case c3 => exact rfl); (case c4 => exact rfl); k_whole; intro g' L' h' FG' F' N' B' X' T'; (try dsimp only); (try k_fold))))
  (rename Fr h₀ _ _ _ => FG)
  replace h1 := h1.mono FG.keep (fun _ e => e)
  (repeat' (first | (k_unfold; (try dsimp only)) | ((with_reducible show wpAny _ _ (call (Value.ref _) _) _ _ _); first | (k_here; (with_reducible show wpAny _ _ (call (Value.ref 82) _) _ _ _); k_dflt (refine' c_frac (by k_asm) (by k_asm) (by k_asm) (by k_asm) (by k_asm) (by first | exact rfl | assumption) (by ktr_room) (by ktr_units) (by ((first | assumption | omega | exact fracF_den (by first | assumption | omega)))) (Nat.le_trans (by bits_by_make) (by decide)) ?_; k_whole; (((unfold RetT; intro D9 t9 u9 c9 h9 tk9 F9 N9 l9; (try simp only [AllLt, and_true] at l9); (try dsimp only); (try k_sweep); (try k_fold)))))) | (k_here; (with_reducible show wpAny _ _ (call (Value.ref 74) _) _ _ _); k_dflt (refine' c_gcd (by k_asm) (by k_asm) (by k_asm) (by k_asm) (by k_asm) (by first | exact rfl | assumption) (by ktr_room) (by ktr_units) (by ((first | assumption | omega | exact fracF_den (by first | assumption | omega)))) ?_; k_whole; (((intro t9 h9 tk9 p9 F9 N9; (try dsimp only); (try k_sweep); (try k_fold))))))) | (k_end; wrow_close) | walk1 | (dsimp only; walk1) | (leave1; walk_say "STEP leave1"; try dsimp only) | fail "no step"))
  all_goals (((refine' end_I (by with_reducible assumption) (by k_asm) (by k_asm) (by ((intro p9 h9; repeat (first | (with_reducible exact h9) | (with_reducible refine List.mem_cons_of_mem _ ?_))))) ?_)))
  all_goals (unfold signF; split <;> first | omega | (split <;> omega))
theorem c_floor {A1 : Addr} {a0 a1 : Int} (B : Below A₀ base outer h₀) (F : Fr h₀ L s.heap m) (X : (Mine.hd.heap_1 w.params).In h₀) (N : News h₀ L s.heap news) (T : Top p loose mean mg mb h₀) (hk : cs.kind = .function) (hd : dp + 1 < recursionLimit) (hu : un + 8 < cLine) (h1 : TupIn h₀ news A1 a0 a1) (hp1 : 0 < a1) (s2 : intBits a1 ≤ 3000) (ret : RetI h₀ L m news s Q (a0.fdiv a1)) :
    wpAny (model Challenge.rw_xm0723_01.row.prog w) (ktrTop dp un gd cn cs L a ccd cl outer) (call (.ref 131) [.ref A1]) Q E s := by
  w_on
  refine wpAny_call ?_
  k_dflt (((refine' code_def ?k1 ?k2 ?k3 ?k4 ?k5 ?kA ?kF ?kK ?k6 ?k7 ?k8 ?k9 ?kB ?_ ?c2 ?c3 ?c4 ?c5; (case kA => exact rfl); (case kF => exact rfl); (case kK => assumption); (case k1 => k_asm); (case k2 => k_asm); (case k3 => k_asm); (case k4 => k_asm); (case k5 => k_asm); (case k6 => k_is); (case k7 => k_is); (case k8 => ktr_room); (case k9 => first | exact BindsTo.of_eq rfl | exact binds_K (by k_in) rfl (by k_is) rfl rfl rfl); (case c5 => decide); (case kB => exact locs rfl); (case c2 => exact rfl); (case c3 => exact rfl); (case c4 => exact rfl); k_whole; intro g' L' h' FG' F' N' B' X' T'; (try dsimp only); (try k_fold))))
  (rename Fr h₀ _ _ _ => FG)
  replace h1 := h1.mono FG.keep (fun _ e => e)
  (repeat' (first | (k_unfold; (try dsimp only)) | ((with_reducible show wpAny _ _ (call (Value.ref _) _) _ _ _); first | (k_here; (with_reducible show wpAny _ _ (call (Value.ref 82) _) _ _ _); k_dflt (refine' c_frac (by k_asm) (by k_asm) (by k_asm) (by k_asm) (by k_asm) (by first | exact rfl | assumption) (by ktr_room) (by ktr_units) (by ((first | assumption | omega | exact fracF_den (by first | assumption | omega)))) (Nat.le_trans (by bits_by_make) (by decide)) ?_; k_whole; (((unfold RetT; intro D9 t9 u9 c9 h9 tk9 F9 N9 l9; (try simp only [AllLt, and_true] at l9); (try dsimp only); (try k_sweep); (try k_fold)))))) | (k_here; (with_reducible show wpAny _ _ (call (Value.ref 74) _) _ _ _); k_dflt (refine' c_gcd (by k_asm) (by k_asm) (by k_asm) (by k_asm) (by k_asm) (by first | exact rfl | assumption) (by ktr_room) (by ktr_units) (by ((first | assumption | omega | exact fracF_den (by first | assumption | omega)))) ?_; k_whole; (((intro t9 h9 tk9 p9 F9 N9; (try dsimp only); (try k_sweep); (try k_fold))))))) | (k_end; wrow_close) | walk1 | (dsimp only; walk1) | (leave1; walk_say "STEP leave1"; try dsimp only) | fail "no step"))
  all_goals (((refine' end_I (by with_reducible assumption) (by k_asm) (by k_asm) (by ((intro p9 h9; repeat (first | (with_reducible exact h9) | (with_reducible refine List.mem_cons_of_mem _ ?_))))) ?_)))
  all_goals rfl
theorem c_rounded {A1 : Addr} {a0 a1 : Int} (B : Below A₀ base outer h₀) (F : Fr h₀ L s.heap m) (X : (Mine.hd.heap_1 w.params).In h₀) (N : News h₀ L s.heap news) (T : Top p loose mean mg mb h₀) (hk : cs.kind = .function) (hd : dp + 1 < recursionLimit) (hu : un + 8 < cLine) (h1 : TupIn h₀ news A1 a0 a1) (hp1 : 0 < a1) (s1 : intBits a0 ≤ 3000) (s2 : intBits a1 ≤ 3000) (ret : RetI h₀ L m news s Q (roundF a0 a1)) :
    wpAny (model Challenge.rw_xm0723_01.row.prog w) (ktrTop dp un gd cn cs L a ccd cl outer) (call (.ref 138) [.ref A1]) Q E s := by
  w_on
  refine wpAny_call ?_
  k_dflt (((refine' code_def ?k1 ?k2 ?k3 ?k4 ?k5 ?kA ?kF ?kK ?k6 ?k7 ?k8 ?k9 ?kB ?_ ?c2 ?c3 ?c4 ?c5; (case kA => exact rfl); (case kF => exact rfl); (case kK => assumption); (case k1 => k_asm); (case k2 => k_asm); (case k3 => k_asm); (case k4 => k_asm); (case k5 => k_asm); (case k6 => k_is); (case k7 => k_is); (case k8 => ktr_room); (case k9 => first | exact BindsTo.of_eq rfl | exact binds_K (by k_in) rfl (by k_is) rfl rfl rfl); (case c5 => decide); (case kB => exact locs rfl); (case c2 => exact rfl); (case c3 => exact rfl); (case c4 => exact rfl); k_whole; intro g' L' h' FG' F' N' B' X' T'; (try dsimp only); (try k_fold))))
  (rename Fr h₀ _ _ _ => FG)
  replace h1 := h1.mono FG.keep (fun _ e => e)
  (repeat' (first | (k_unfold; (try dsimp only)) | ((with_reducible show wpAny _ _ (call (Value.ref _) _) _ _ _); first | (k_here; (with_reducible show wpAny _ _ (call (Value.ref 82) _) _ _ _); k_dflt (refine' c_frac (by k_asm) (by k_asm) (by k_asm) (by k_asm) (by k_asm) (by first | exact rfl | assumption) (by ktr_room) (by ktr_units) (by ((first | assumption | omega | exact fracF_den (by first | assumption | omega)))) (Nat.le_trans (by bits_by_make) (by decide)) ?_; k_whole; (((unfold RetT; intro D9 t9 u9 c9 h9 tk9 F9 N9 l9; (try simp only [AllLt, and_true] at l9); (try dsimp only); (try k_sweep); (try k_fold)))))) | (k_here; (with_reducible show wpAny _ _ (call (Value.ref 74) _) _ _ _); k_dflt (refine' c_gcd (by k_asm) (by k_asm) (by k_asm) (by k_asm) (by k_asm) (by first | exact rfl | assumption) (by ktr_room) (by ktr_units) (by ((first | assumption | omega | exact fracF_den (by first | assumption | omega)))) ?_; k_whole; (((intro t9 h9 tk9 p9 F9 N9; (try dsimp only); (try k_sweep); (try k_fold))))))) | (k_end; wrow_close) | walk1 | (dsimp only; walk1) | (leave1; walk_say "STEP leave1"; try dsimp only) | fail "no step"))
  all_goals (((refine' end_I (by with_reducible assumption) (by k_asm) (by k_asm) (by ((intro p9 h9; repeat (first | (with_reducible exact h9) | (with_reducible refine List.mem_cons_of_mem _ ?_))))) ?_)))
  all_goals rfl
end
end
section
section
variable {w : World} {p : Program} {loose : List Str} {mean : ExcName → Option Value} {mg mb : Str → Option Value} {dp un : Nat} {gd : Option (List Code)} {cn : Str} {cs : Scope} {a : Addr} {ccd : Value} {cl : List (Str × Addr)} {outer : List Env} {A₀ : Around} {base h₀ : Heap} {L : Addr} {m : Str → Option Value} {news : List (Addr × Obj)} {s : Shared} {Q E : Value → Shared → Prop}
theorem c_compare {A1 A2 : Addr} {a0 a1 b0 b1 : Int} (B : Below A₀ base outer h₀) (F : Fr h₀ L s.heap m) (X : (Mine.hd.heap_1 w.params).In h₀) (N : News h₀ L s.heap news) (T : Top p loose mean mg mb h₀) (hk : cs.kind = .function) (hd : dp + 2 < recursionLimit) (hu : un + 16 < cLine) (h1 : TupIn h₀ news A1 a0 a1) (h2 : TupIn h₀ news A2 b0 b1) (s1 : intBits a0 ≤ 3000) (s2 : intBits a1 ≤ 3000) (s3 : intBits b0 ≤ 3000) (s4 : intBits b1 ≤ 3000) (ret : RetI h₀ L m news s Q (signF (a0 * b1 - b0 * a1))) :
    wpAny (model Challenge.rw_xm0723_01.row.prog w) (ktrTop dp un gd cn cs L a ccd cl outer) (call (.ref 124) [.ref A1, .ref A2]) Q E s := by
  w_on
  refine wpAny_call ?_
  k_dflt (((refine' code_def ?k1 ?k2 ?k3 ?k4 ?k5 ?kA ?kF ?kK ?k6 ?k7 ?k8 ?k9 ?kB ?_ ?c2 ?c3 ?c4 ?c5; (case kA => exact rfl); (case kF => exact rfl); (case kK => assumption); (case k1 => k_asm); (case k2 => k_asm); (case k3 => k_asm); (case k4 => k_asm); (case k5 => k_asm); (case k6 => k_is); (case k7 => k_is); (case k8 => ktr_room); (case k9 => first | exact BindsTo.of_eq rfl | exact binds_K (by k_in) rfl (by k_is) rfl rfl rfl); (case c5 => decide); (case kB => exact locs rfl); (case c2 => exact rfl); (case c3 => exact rfl); (case c4 => exact rfl); k_whole; intro g' L' h' FG' F' N' B' X' T'; (try dsimp only); (try k_fold))))
  (rename Fr h₀ _ _ _ => FG)
  replace h1 := h1.mono FG.keep (fun _ e => e)
  replace h2 := h2.mono FG.keep (fun _ e => e)
  (repeat' (first | (k_unfold; (try dsimp only)) | ((with_reducible show wpAny _ _ (call (Value.ref _) _) _ _ _); first | (k_here; (with_reducible show wpAny _ _ (call (Value.ref 138) _) _ _ _); k_dflt (refine' c_rounded (by k_asm) (by k_asm) (by k_asm) (by k_asm) (by k_asm) (by first | exact rfl | assumption) (by ktr_room) (by ktr_units) (by ((first | exact TupIn.of_news (by k_mem) | exact TupIn.of_K (by k_asm) (by k_is) | exact TupIn.mono (by assumption) (fun _ _ e => e) (by ((intro p9 h9; repeat (first | (with_reducible exact h9) | (with_reducible refine List.mem_cons_of_mem _ ?_))))) | exact TupIn.mono (by assumption) (Fr.keep (by assumption)) (by ((intro p9 h9; repeat (first | (with_reducible exact h9) | (with_reducible refine List.mem_cons_of_mem _ ?_)))))))) (by ((first | assumption | omega | exact fracF_den (by first | assumption | omega)))) (Nat.le_trans (by bits_by_make) (by decide)) (Nat.le_trans (by bits_by_make) (by decide)) ?_; k_whole; (((unfold RetI; intro t9 h9 tk9 F9 N9; (try dsimp only); (try k_sweep); (try k_fold)))))) | (k_here; (with_reducible show wpAny _ _ (call (Value.ref 131) _) _ _ _); k_dflt (refine' c_floor (by k_asm) (by k_asm) (by k_asm) (by k_asm) (by k_asm) (by first | exact rfl | assumption) (by ktr_room) (by ktr_units) (by ((first | exact TupIn.of_news (by k_mem) | exact TupIn.of_K (by k_asm) (by k_is) | exact TupIn.mono (by assumption) (fun _ _ e => e) (by ((intro p9 h9; repeat (first | (with_reducible exact h9) | (with_reducible refine List.mem_cons_of_mem _ ?_))))) | exact TupIn.mono (by assumption) (Fr.keep (by assumption)) (by ((intro p9 h9; repeat (first | (with_reducible exact h9) | (with_reducible refine List.mem_cons_of_mem _ ?_)))))))) (by ((first | assumption | omega | exact fracF_den (by first | assumption | omega)))) (Nat.le_trans (by bits_by_make) (by decide)) ?_; k_whole; (((unfold RetI; intro t9 h9 tk9 F9 N9; (try dsimp only); (try k_sweep); (try k_fold)))))) | (k_here; (with_reducible show wpAny _ _ (call (Value.ref 117) _) _ _ _); k_dflt (refine' c_sign (by k_asm) (by k_asm) (by k_asm) (by k_asm) (by k_asm) (by first | exact rfl | assumption) (by ktr_room) (by ktr_units) (by ((first | exact TupIn.of_news (by k_mem) | exact TupIn.of_K (by k_asm) (by k_is) | exact TupIn.mono (by assumption) (fun _ _ e => e) (by ((intro p9 h9; repeat (first | (with_reducible exact h9) | (with_reducible refine List.mem_cons_of_mem _ ?_))))) | exact TupIn.mono (by assumption) (Fr.keep (by assumption)) (by ((intro p9 h9; repeat (first | (with_reducible exact h9) | (with_reducible refine List.mem_cons_of_mem _ ?_)))))))) ?_; k_whole; (((unfold RetI; intro t9 h9 tk9 F9 N9; (try dsimp only); (try k_sweep); (try k_fold)))))) | (k_here; (with_reducible show wpAny _ _ (call (Value.ref 110) _) _ _ _); k_dflt (refine' c_negated (by k_asm) (by k_asm) (by k_asm) (by k_asm) (by k_asm) (by first | exact rfl | assumption) (by ktr_room) (by ktr_units) (by ((first | exact TupIn.of_news (by k_mem) | exact TupIn.of_K (by k_asm) (by k_is) | exact TupIn.mono (by assumption) (fun _ _ e => e) (by ((intro p9 h9; repeat (first | (with_reducible exact h9) | (with_reducible refine List.mem_cons_of_mem _ ?_))))) | exact TupIn.mono (by assumption) (Fr.keep (by assumption)) (by ((intro p9 h9; repeat (first | (with_reducible exact h9) | (with_reducible refine List.mem_cons_of_mem _ ?_)))))))) ?_; k_whole; (((unfold RetT; intro D9 t9 u9 c9 h9 tk9 F9 N9 l9; (try simp only [AllLt, and_true] at l9); (try dsimp only); (try k_sweep); (try k_fold)))))) | (k_here; (with_reducible show wpAny _ _ (call (Value.ref 103) _) _ _ _); k_dflt (refine' c_divided (by k_asm) (by k_asm) (by k_asm) (by k_asm) (by k_asm) (by first | exact rfl | assumption) (by ktr_room) (by ktr_units) (by ((first | exact TupIn.of_news (by k_mem) | exact TupIn.of_K (by k_asm) (by k_is) | exact TupIn.mono (by assumption) (fun _ _ e => e) (by ((intro p9 h9; repeat (first | (with_reducible exact h9) | (with_reducible refine List.mem_cons_of_mem _ ?_))))) | exact TupIn.mono (by assumption) (Fr.keep (by assumption)) (by ((intro p9 h9; repeat (first | (with_reducible exact h9) | (with_reducible refine List.mem_cons_of_mem _ ?_)))))))) (by ((first | exact TupIn.of_news (by k_mem) | exact TupIn.of_K (by k_asm) (by k_is) | exact TupIn.mono (by assumption) (fun _ _ e => e) (by ((intro p9 h9; repeat (first | (with_reducible exact h9) | (with_reducible refine List.mem_cons_of_mem _ ?_))))) | exact TupIn.mono (by assumption) (Fr.keep (by assumption)) (by ((intro p9 h9; repeat (first | (with_reducible exact h9) | (with_reducible refine List.mem_cons_of_mem _ ?_)))))))) (by ((first | assumption | omega | exact fracF_den (by first | assumption | omega)))) (by ((first | assumption | omega | exact fracF_den (by first | assumption | omega)))) (Nat.le_trans (by bits_by_make) (by decide)) (Nat.le_trans (by bits_by_make) (by decide)) (Nat.le_trans (by bits_by_make) (by decide)) (Nat.le_trans (by bits_by_make) (by decide)) ?_; k_whole; (((unfold RetT; intro D9 t9 u9 c9 h9 tk9 F9 N9 l9; (try simp only [AllLt, and_true] at l9); (try dsimp only); (try k_sweep); (try k_fold)))))) | (k_here; (with_reducible show wpAny _ _ (call (Value.ref 96) _) _ _ _); k_dflt (refine' c_times (by k_asm) (by k_asm) (by k_asm) (by k_asm) (by k_asm) (by first | exact rfl | assumption) (by ktr_room) (by ktr_units) (by ((first | exact TupIn.of_news (by k_mem) | exact TupIn.of_K (by k_asm) (by k_is) | exact TupIn.mono (by assumption) (fun _ _ e => e) (by ((intro p9 h9; repeat (first | (with_reducible exact h9) | (with_reducible refine List.mem_cons_of_mem _ ?_))))) | exact TupIn.mono (by assumption) (Fr.keep (by assumption)) (by ((intro p9 h9; repeat (first | (with_reducible exact h9) | (with_reducible refine List.mem_cons_of_mem _ ?_)))))))) (by ((first | exact TupIn.of_news (by k_mem) | exact TupIn.of_K (by k_asm) (by k_is) | exact TupIn.mono (by assumption) (fun _ _ e => e) (by ((intro p9 h9; repeat (first | (with_reducible exact h9) | (with_reducible refine List.mem_cons_of_mem _ ?_))))) | exact TupIn.mono (by assumption) (Fr.keep (by assumption)) (by ((intro p9 h9; repeat (first | (with_reducible exact h9) | (with_reducible refine List.mem_cons_of_mem _ ?_)))))))) (by ((first | assumption | omega | exact fracF_den (by first | assumption | omega)))) (by ((first | assumption | omega | exact fracF_den (by first | assumption | omega)))) (Nat.le_trans (by bits_by_make) (by decide)) (Nat.le_trans (by bits_by_make) (by decide)) (Nat.le_trans (by bits_by_make) (by decide)) (Nat.le_trans (by bits_by_make) (by decide)) ?_; k_whole; (((unfold RetT; intro D9 t9 u9 c9 h9 tk9 F9 N9 l9; (try simp only [AllLt, and_true] at l9); (try dsimp only); (try k_sweep); (try k_fold)))))) | (k_here; (with_reducible show wpAny _ _ (call (Value.ref 89) _) _ _ _); k_dflt (refine' c_minus (by k_asm) (by k_asm) (by k_asm) (by k_asm) (by k_asm) (by first | exact rfl | assumption) (by ktr_room) (by ktr_units) (by ((first | exact TupIn.of_news (by k_mem) | exact TupIn.of_K (by k_asm) (by k_is) | exact TupIn.mono (by assumption) (fun _ _ e => e) (by ((intro p9 h9; repeat (first | (with_reducible exact h9) | (with_reducible refine List.mem_cons_of_mem _ ?_))))) | exact TupIn.mono (by assumption) (Fr.keep (by assumption)) (by ((intro p9 h9; repeat (first | (with_reducible exact h9) | (with_reducible refine List.mem_cons_of_mem _ ?_)))))))) (by ((first | exact TupIn.of_news (by k_mem) | exact TupIn.of_K (by k_asm) (by k_is) | exact TupIn.mono (by assumption) (fun _ _ e => e) (by ((intro p9 h9; repeat (first | (with_reducible exact h9) | (with_reducible refine List.mem_cons_of_mem _ ?_))))) | exact TupIn.mono (by assumption) (Fr.keep (by assumption)) (by ((intro p9 h9; repeat (first | (with_reducible exact h9) | (with_reducible refine List.mem_cons_of_mem _ ?_)))))))) (by ((first | assumption | omega | exact fracF_den (by first | assumption | omega)))) (by ((first | assumption | omega | exact fracF_den (by first | assumption | omega)))) (Nat.le_trans (by bits_by_make) (by decide)) (Nat.le_trans (by bits_by_make) (by decide)) (Nat.le_trans (by bits_by_make) (by decide)) (Nat.le_trans (by bits_by_make) (by decide)) ?_; k_whole; (((unfold RetT; intro D9 t9 u9 c9 h9 tk9 F9 N9 l9; (try simp only [AllLt, and_true] at l9); (try dsimp only); (try k_sweep); (try k_fold)))))) | (k_here; (with_reducible show wpAny _ _ (call (Value.ref 82) _) _ _ _); k_dflt (refine' c_frac (by k_asm) (by k_asm) (by k_asm) (by k_asm) (by k_asm) (by first | exact rfl | assumption) (by ktr_room) (by ktr_units) (by ((first | assumption | omega | exact fracF_den (by first | assumption | omega)))) (Nat.le_trans (by bits_by_make) (by decide)) ?_; k_whole; (((unfold RetT; intro D9 t9 u9 c9 h9 tk9 F9 N9 l9; (try simp only [AllLt, and_true] at l9); (try dsimp only); (try k_sweep); (try k_fold)))))) | (k_here; (with_reducible show wpAny _ _ (call (Value.ref 74) _) _ _ _); k_dflt (refine' c_gcd (by k_asm) (by k_asm) (by k_asm) (by k_asm) (by k_asm) (by first | exact rfl | assumption) (by ktr_room) (by ktr_units) (by ((first | assumption | omega | exact fracF_den (by first | assumption | omega)))) ?_; k_whole; (((intro t9 h9 tk9 p9 F9 N9; (try dsimp only); (try k_sweep); (try k_fold))))))) | (k_end; wrow_close) | walk1 | (dsimp only; walk1) | (leave1; walk_say "STEP leave1"; try dsimp only) | fail "no step"))
  all_goals (((refine' end_I (by with_reducible assumption) (by k_asm) (by k_asm) (by ((intro p9 h9; repeat (first | (with_reducible exact h9) | (with_reducible refine List.mem_cons_of_mem _ ?_))))) ?_)))
  all_goals rfl
theorem c_want {b : Int} {tb : Tok} (B : Below A₀ base outer h₀) (F : Fr h₀ L s.heap m) (X : (Mine.hd.heap_1 w.params).In h₀) (N : News h₀ L s.heap news) (T : Top p loose mean mg mb h₀) (hk : cs.kind = .function) (hd : dp + 1 < recursionLimit) (hu : un + 8 < cLine) (h1 : 1 ≤ b) (h2 : b ≤ 10000000000000000000000000000000000000000) (ret : RetN h₀ L m news s Q) :
    wpAny (model Challenge.rw_xm0723_01.row.prog w) (ktrTop dp un gd cn cs L a ccd cl outer) (call (.ref 147) [.int b tb]) Q E s := by
  w_on
  refine wpAny_call ?_
  k_dflt (((refine' code_def ?k1 ?k2 ?k3 ?k4 ?k5 ?kA ?kF ?kK ?k6 ?k7 ?k8 ?k9 ?kB ?_ ?c2 ?c3 ?c4 ?c5; (case kA => exact rfl); (case kF => exact rfl); (case kK => assumption); (case k1 => k_asm); (case k2 => k_asm); (case k3 => k_asm); (case k4 => k_asm); (case k5 => k_asm); (case k6 => k_is); (case k7 => k_is); (case k8 => ktr_room); (case k9 => first | exact BindsTo.of_eq rfl | exact binds_K (by k_in) rfl (by k_is) rfl rfl rfl); (case c5 => decide); (case kB => exact locs rfl); (case c2 => exact rfl); (case c3 => exact rfl); (case c4 => exact rfl); k_whole; intro g' L' h' FG' F' N' B' X' T'; (try dsimp only); (try k_fold))))
  (repeat' (first | (k_unfold; (try dsimp only)) | ((with_reducible show wpAny _ _ (call (Value.ref _) _) _ _ _); first | (k_here; (with_reducible show wpAny _ _ (call (Value.ref 138) _) _ _ _); k_dflt (refine' c_rounded (by k_asm) (by k_asm) (by k_asm) (by k_asm) (by k_asm) (by first | exact rfl | assumption) (by ktr_room) (by ktr_units) (by ((first | exact TupIn.of_news (by k_mem) | exact TupIn.of_K (by k_asm) (by k_is) | exact TupIn.mono (by assumption) (fun _ _ e => e) (by ((intro p9 h9; repeat (first | (with_reducible exact h9) | (with_reducible refine List.mem_cons_of_mem _ ?_))))) | exact TupIn.mono (by assumption) (Fr.keep (by assumption)) (by ((intro p9 h9; repeat (first | (with_reducible exact h9) | (with_reducible refine List.mem_cons_of_mem _ ?_)))))))) (by ((first | assumption | omega | exact fracF_den (by first | assumption | omega)))) (Nat.le_trans (by bits_by_make) (by decide)) (Nat.le_trans (by bits_by_make) (by decide)) ?_; k_whole; (((unfold RetI; intro t9 h9 tk9 F9 N9; (try dsimp only); (try k_sweep); (try k_fold)))))) | (k_here; (with_reducible show wpAny _ _ (call (Value.ref 131) _) _ _ _); k_dflt (refine' c_floor (by k_asm) (by k_asm) (by k_asm) (by k_asm) (by k_asm) (by first | exact rfl | assumption) (by ktr_room) (by ktr_units) (by ((first | exact TupIn.of_news (by k_mem) | exact TupIn.of_K (by k_asm) (by k_is) | exact TupIn.mono (by assumption) (fun _ _ e => e) (by ((intro p9 h9; repeat (first | (with_reducible exact h9) | (with_reducible refine List.mem_cons_of_mem _ ?_))))) | exact TupIn.mono (by assumption) (Fr.keep (by assumption)) (by ((intro p9 h9; repeat (first | (with_reducible exact h9) | (with_reducible refine List.mem_cons_of_mem _ ?_)))))))) (by ((first | assumption | omega | exact fracF_den (by first | assumption | omega)))) (Nat.le_trans (by bits_by_make) (by decide)) ?_; k_whole; (((unfold RetI; intro t9 h9 tk9 F9 N9; (try dsimp only); (try k_sweep); (try k_fold)))))) | (k_here; (with_reducible show wpAny _ _ (call (Value.ref 117) _) _ _ _); k_dflt (refine' c_sign (by k_asm) (by k_asm) (by k_asm) (by k_asm) (by k_asm) (by first | exact rfl | assumption) (by ktr_room) (by ktr_units) (by ((first | exact TupIn.of_news (by k_mem) | exact TupIn.of_K (by k_asm) (by k_is) | exact TupIn.mono (by assumption) (fun _ _ e => e) (by ((intro p9 h9; repeat (first | (with_reducible exact h9) | (with_reducible refine List.mem_cons_of_mem _ ?_))))) | exact TupIn.mono (by assumption) (Fr.keep (by assumption)) (by ((intro p9 h9; repeat (first | (with_reducible exact h9) | (with_reducible refine List.mem_cons_of_mem _ ?_)))))))) ?_; k_whole; (((unfold RetI; intro t9 h9 tk9 F9 N9; (try dsimp only); (try k_sweep); (try k_fold)))))) | (k_here; (with_reducible show wpAny _ _ (call (Value.ref 110) _) _ _ _); k_dflt (refine' c_negated (by k_asm) (by k_asm) (by k_asm) (by k_asm) (by k_asm) (by first | exact rfl | assumption) (by ktr_room) (by ktr_units) (by ((first | exact TupIn.of_news (by k_mem) | exact TupIn.of_K (by k_asm) (by k_is) | exact TupIn.mono (by assumption) (fun _ _ e => e) (by ((intro p9 h9; repeat (first | (with_reducible exact h9) | (with_reducible refine List.mem_cons_of_mem _ ?_))))) | exact TupIn.mono (by assumption) (Fr.keep (by assumption)) (by ((intro p9 h9; repeat (first | (with_reducible exact h9) | (with_reducible refine List.mem_cons_of_mem _ ?_)))))))) ?_; k_whole; (((unfold RetT; intro D9 t9 u9 c9 h9 tk9 F9 N9 l9; (try simp only [AllLt, and_true] at l9); (try dsimp only); (try k_sweep); (try k_fold)))))) | (k_here; (with_reducible show wpAny _ _ (call (Value.ref 103) _) _ _ _); k_dflt (refine' c_divided (by k_asm) (by k_asm) (by k_asm) (by k_asm) (by k_asm) (by first | exact rfl | assumption) (by ktr_room) (by ktr_units) (by ((first | exact TupIn.of_news (by k_mem) | exact TupIn.of_K (by k_asm) (by k_is) | exact TupIn.mono (by assumption) (fun _ _ e => e) (by ((intro p9 h9; repeat (first | (with_reducible exact h9) | (with_reducible refine List.mem_cons_of_mem _ ?_))))) | exact TupIn.mono (by assumption) (Fr.keep (by assumption)) (by ((intro p9 h9; repeat (first | (with_reducible exact h9) | (with_reducible refine List.mem_cons_of_mem _ ?_)))))))) (by ((first | exact TupIn.of_news (by k_mem) | exact TupIn.of_K (by k_asm) (by k_is) | exact TupIn.mono (by assumption) (fun _ _ e => e) (by ((intro p9 h9; repeat (first | (with_reducible exact h9) | (with_reducible refine List.mem_cons_of_mem _ ?_))))) | exact TupIn.mono (by assumption) (Fr.keep (by assumption)) (by ((intro p9 h9; repeat (first | (with_reducible exact h9) | (with_reducible refine List.mem_cons_of_mem _ ?_)))))))) (by ((first | assumption | omega | exact fracF_den (by first | assumption | omega)))) (by ((first | assumption | omega | exact fracF_den (by first | assumption | omega)))) (Nat.le_trans (by bits_by_make) (by decide)) (Nat.le_trans (by bits_by_make) (by decide)) (Nat.le_trans (by bits_by_make) (by decide)) (Nat.le_trans (by bits_by_make) (by decide)) ?_; k_whole; (((unfold RetT; intro D9 t9 u9 c9 h9 tk9 F9 N9 l9; (try simp only [AllLt, and_true] at l9); (try dsimp only); (try k_sweep); (try k_fold)))))) | (k_here; (with_reducible show wpAny _ _ (call (Value.ref 96) _) _ _ _); k_dflt (refine' c_times (by k_asm) (by k_asm) (by k_asm) (by k_asm) (by k_asm) (by first | exact rfl | assumption) (by ktr_room) (by ktr_units) (by ((first | exact TupIn.of_news (by k_mem) | exact TupIn.of_K (by k_asm) (by k_is) | exact TupIn.mono (by assumption) (fun _ _ e => e) (by ((intro p9 h9; repeat (first | (with_reducible exact h9) | (with_reducible refine List.mem_cons_of_mem _ ?_))))) | exact TupIn.mono (by assumption) (Fr.keep (by assumption)) (by ((intro p9 h9; repeat (first | (with_reducible exact h9) | (with_reducible refine List.mem_cons_of_mem _ ?_)))))))) (by ((first | exact TupIn.of_news (by k_mem) | exact TupIn.of_K (by k_asm) (by k_is) | exact TupIn.mono (by assumption) (fun _ _ e => e) (by ((intro p9 h9; repeat (first | (with_reducible exact h9) | (with_reducible refine List.mem_cons_of_mem _ ?_))))) | exact TupIn.mono (by assumption) (Fr.keep (by assumption)) (by ((intro p9 h9; repeat (first | (with_reducible exact h9) | (with_reducible refine List.mem_cons_of_mem _ ?_)))))))) (by ((first | assumption | omega | exact fracF_den (by first | assumption | omega)))) (by ((first | assumption | omega | exact fracF_den (by first | assumption | omega)))) (Nat.le_trans (by bits_by_make) (by decide)) (Nat.le_trans (by bits_by_make) (by decide)) (Nat.le_trans (by bits_by_make) (by decide)) (Nat.le_trans (by bits_by_make) (by decide)) ?_; k_whole; (((unfold RetT; intro D9 t9 u9 c9 h9 tk9 F9 N9 l9; (try simp only [AllLt, and_true] at l9); (try dsimp only); (try k_sweep); (try k_fold)))))) | (k_here; (with_reducible show wpAny _ _ (call (Value.ref 89) _) _ _ _); k_dflt (refine' c_minus (by k_asm) (by k_asm) (by k_asm) (by k_asm) (by k_asm) (by first | exact rfl | assumption) (by ktr_room) (by ktr_units) (by ((first | exact TupIn.of_news (by k_mem) | exact TupIn.of_K (by k_asm) (by k_is) | exact TupIn.mono (by assumption) (fun _ _ e => e) (by ((intro p9 h9; repeat (first | (with_reducible exact h9) | (with_reducible refine List.mem_cons_of_mem _ ?_))))) | exact TupIn.mono (by assumption) (Fr.keep (by assumption)) (by ((intro p9 h9; repeat (first | (with_reducible exact h9) | (with_reducible refine List.mem_cons_of_mem _ ?_)))))))) (by ((first | exact TupIn.of_news (by k_mem) | exact TupIn.of_K (by k_asm) (by k_is) | exact TupIn.mono (by assumption) (fun _ _ e => e) (by ((intro p9 h9; repeat (first | (with_reducible exact h9) | (with_reducible refine List.mem_cons_of_mem _ ?_))))) | exact TupIn.mono (by assumption) (Fr.keep (by assumption)) (by ((intro p9 h9; repeat (first | (with_reducible exact h9) | (with_reducible refine List.mem_cons_of_mem _ ?_)))))))) (by ((first | assumption | omega | exact fracF_den (by first | assumption | omega)))) (by ((first | assumption | omega | exact fracF_den (by first | assumption | omega)))) (Nat.le_trans (by bits_by_make) (by decide)) (Nat.le_trans (by bits_by_make) (by decide)) (Nat.le_trans (by bits_by_make) (by decide)) (Nat.le_trans (by bits_by_make) (by decide)) ?_; k_whole; (((unfold RetT; intro D9 t9 u9 c9 h9 tk9 F9 N9 l9; (try simp only [AllLt, and_true] at l9); (try dsimp only); (try k_sweep); (try k_fold)))))) | (k_here; (with_reducible show wpAny _ _ (call (Value.ref 82) _) _ _ _); k_dflt (refine' c_frac (by k_asm) (by k_asm) (by k_asm) (by k_asm) (by k_asm) (by first | exact rfl | assumption) (by ktr_room) (by ktr_units) (by ((first | assumption | omega | exact fracF_den (by first | assumption | omega)))) (Nat.le_trans (by bits_by_make) (by decide)) ?_; k_whole; (((unfold RetT; intro D9 t9 u9 c9 h9 tk9 F9 N9 l9; (try simp only [AllLt, and_true] at l9); (try dsimp only); (try k_sweep); (try k_fold)))))) | (k_here; (with_reducible show wpAny _ _ (call (Value.ref 74) _) _ _ _); k_dflt (refine' c_gcd (by k_asm) (by k_asm) (by k_asm) (by k_asm) (by k_asm) (by first | exact rfl | assumption) (by ktr_room) (by ktr_units) (by ((first | assumption | omega | exact fracF_den (by first | assumption | omega)))) ?_; k_whole; (((intro t9 h9 tk9 p9 F9 N9; (try dsimp only); (try k_sweep); (try k_fold))))))) | (k_end; wrow_close) | walk1 | (dsimp only; walk1) | (leave1; walk_say "STEP leave1"; try dsimp only) | fail "no step"))
  all_goals (((refine' end_N (by with_reducible assumption) (by k_asm) (by k_asm) (by ((intro p9 h9; repeat (first | (with_reducible exact h9) | (with_reducible refine List.mem_cons_of_mem _ ?_))))))))
theorem c_rad {A1 : Addr} {a0 a1 sc : Int} {ts : Tok} (B : Below A₀ base outer h₀) (F : Fr h₀ L s.heap m) (X : (Mine.hd.heap_1 w.params).In h₀) (N : News h₀ L s.heap news) (T : Top p loose mean mg mb h₀) (hk : cs.kind = .function) (hd : dp + 1 < recursionLimit) (hu : un + 8 < cLine) (h1 : TupIn h₀ news A1 a0 a1) (hp1 : 0 < a1) (s1 : intBits a0 ≤ 500) (s2 : intBits a1 ≤ 500) (s3 : intBits sc ≤ 500) (ret : RetI h₀ L m news s Q (radF a0 a1 sc)) :
    wpAny (model Challenge.rw_xm0723_01.row.prog w) (ktrTop dp un gd cn cs L a ccd cl outer) (call (.ref 154) [.ref A1, .int sc ts]) Q E s := by
  w_on
  refine wpAny_call ?_
  k_dflt (((refine' code_def ?k1 ?k2 ?k3 ?k4 ?k5 ?kA ?kF ?kK ?k6 ?k7 ?k8 ?k9 ?kB ?_ ?c2 ?c3 ?c4 ?c5; (case kA => exact rfl); (case kF => exact rfl); (case kK => assumption); (case k1 => k_asm); (case k2 => k_asm); (case k3 => k_asm); (case k4 => k_asm); (case k5 => k_asm); (case k6 => k_is); (case k7 => k_is); (case k8 => ktr_room); (case k9 => first | exact BindsTo.of_eq rfl | exact binds_K (by k_in) rfl (by k_is) rfl rfl rfl); (case c5 => decide); (case kB => exact locs rfl); (case c2 => exact rfl); (case c3 => exact rfl); (case c4 => exact rfl); k_whole; intro g' L' h' FG' F' N' B' X' T'; (try dsimp only); (try k_fold))))
  (rename Fr h₀ _ _ _ => FG)
  replace h1 := h1.mono FG.keep (fun _ e => e)
  (repeat' (first | (k_unfold; (try dsimp only)) | ((with_reducible show wpAny _ _ (call (Value.ref _) _) _ _ _); first | (k_here; (with_reducible show wpAny _ _ (call (Value.ref 138) _) _ _ _); k_dflt (refine' c_rounded (by k_asm) (by k_asm) (by k_asm) (by k_asm) (by k_asm) (by first | exact rfl | assumption) (by ktr_room) (by ktr_units) (by ((first | exact TupIn.of_news (by k_mem) | exact TupIn.of_K (by k_asm) (by k_is) | exact TupIn.mono (by assumption) (fun _ _ e => e) (by ((intro p9 h9; repeat (first | (with_reducible exact h9) | (with_reducible refine List.mem_cons_of_mem _ ?_))))) | exact TupIn.mono (by assumption) (Fr.keep (by assumption)) (by ((intro p9 h9; repeat (first | (with_reducible exact h9) | (with_reducible refine List.mem_cons_of_mem _ ?_)))))))) (by ((first | assumption | omega | exact fracF_den (by first | assumption | omega)))) (Nat.le_trans (by bits_by_make) (by decide)) (Nat.le_trans (by bits_by_make) (by decide)) ?_; k_whole; (((unfold RetI; intro t9 h9 tk9 F9 N9; (try dsimp only); (try k_sweep); (try k_fold)))))) | (k_here; (with_reducible show wpAny _ _ (call (Value.ref 131) _) _ _ _); k_dflt (refine' c_floor (by k_asm) (by k_asm) (by k_asm) (by k_asm) (by k_asm) (by first | exact rfl | assumption) (by ktr_room) (by ktr_units) (by ((first | exact TupIn.of_news (by k_mem) | exact TupIn.of_K (by k_asm) (by k_is) | exact TupIn.mono (by assumption) (fun _ _ e => e) (by ((intro p9 h9; repeat (first | (with_reducible exact h9) | (with_reducible refine List.mem_cons_of_mem _ ?_))))) | exact TupIn.mono (by assumption) (Fr.keep (by assumption)) (by ((intro p9 h9; repeat (first | (with_reducible exact h9) | (with_reducible refine List.mem_cons_of_mem _ ?_)))))))) (by ((first | assumption | omega | exact fracF_den (by first | assumption | omega)))) (Nat.le_trans (by bits_by_make) (by decide)) ?_; k_whole; (((unfold RetI; intro t9 h9 tk9 F9 N9; (try dsimp only); (try k_sweep); (try k_fold)))))) | (k_here; (with_reducible show wpAny _ _ (call (Value.ref 117) _) _ _ _); k_dflt (refine' c_sign (by k_asm) (by k_asm) (by k_asm) (by k_asm) (by k_asm) (by first | exact rfl | assumption) (by ktr_room) (by ktr_units) (by ((first | exact TupIn.of_news (by k_mem) | exact TupIn.of_K (by k_asm) (by k_is) | exact TupIn.mono (by assumption) (fun _ _ e => e) (by ((intro p9 h9; repeat (first | (with_reducible exact h9) | (with_reducible refine List.mem_cons_of_mem _ ?_))))) | exact TupIn.mono (by assumption) (Fr.keep (by assumption)) (by ((intro p9 h9; repeat (first | (with_reducible exact h9) | (with_reducible refine List.mem_cons_of_mem _ ?_)))))))) ?_; k_whole; (((unfold RetI; intro t9 h9 tk9 F9 N9; (try dsimp only); (try k_sweep); (try k_fold)))))) | (k_here; (with_reducible show wpAny _ _ (call (Value.ref 110) _) _ _ _); k_dflt (refine' c_negated (by k_asm) (by k_asm) (by k_asm) (by k_asm) (by k_asm) (by first | exact rfl | assumption) (by ktr_room) (by ktr_units) (by ((first | exact TupIn.of_news (by k_mem) | exact TupIn.of_K (by k_asm) (by k_is) | exact TupIn.mono (by assumption) (fun _ _ e => e) (by ((intro p9 h9; repeat (first | (with_reducible exact h9) | (with_reducible refine List.mem_cons_of_mem _ ?_))))) | exact TupIn.mono (by assumption) (Fr.keep (by assumption)) (by ((intro p9 h9; repeat (first | (with_reducible exact h9) | (with_reducible refine List.mem_cons_of_mem _ ?_)))))))) ?_; k_whole; (((unfold RetT; intro D9 t9 u9 c9 h9 tk9 F9 N9 l9; (try simp only [AllLt, and_true] at l9); (try dsimp only); (try k_sweep); (try k_fold)))))) | (k_here; (with_reducible show wpAny _ _ (call (Value.ref 103) _) _ _ _); k_dflt (refine' c_divided (by k_asm) (by k_asm) (by k_asm) (by k_asm) (by k_asm) (by first | exact rfl | assumption) (by ktr_room) (by ktr_units) (by ((first | exact TupIn.of_news (by k_mem) | exact TupIn.of_K (by k_asm) (by k_is) | exact TupIn.mono (by assumption) (fun _ _ e => e) (by ((intro p9 h9; repeat (first | (with_reducible exact h9) | (with_reducible refine List.mem_cons_of_mem _ ?_))))) | exact TupIn.mono (by assumption) (Fr.keep (by assumption)) (by ((intro p9 h9; repeat (first | (with_reducible exact h9) | (with_reducible refine List.mem_cons_of_mem _ ?_)))))))) (by ((first | exact TupIn.of_news (by k_mem) | exact TupIn.of_K (by k_asm) (by k_is) | exact TupIn.mono (by assumption) (fun _ _ e => e) (by ((intro p9 h9; repeat (first | (with_reducible exact h9) | (with_reducible refine List.mem_cons_of_mem _ ?_))))) | exact TupIn.mono (by assumption) (Fr.keep (by assumption)) (by ((intro p9 h9; repeat (first | (with_reducible exact h9) | (with_reducible refine List.mem_cons_of_mem _ ?_)))))))) (by ((first | assumption | omega | exact fracF_den (by first | assumption | omega)))) (by ((first | assumption | omega | exact fracF_den (by first | assumption | omega)))) (Nat.le_trans (by bits_by_make) (by decide)) (Nat.le_trans (by bits_by_make) (by decide)) (Nat.le_trans (by bits_by_make) (by decide)) (Nat.le_trans (by bits_by_make) (by decide)) ?_; k_whole; (((unfold RetT; intro D9 t9 u9 c9 h9 tk9 F9 N9 l9; (try simp only [AllLt, and_true] at l9); (try dsimp only); (try k_sweep); (try k_fold)))))) | (k_here; (with_reducible show wpAny _ _ (call (Value.ref 96) _) _ _ _); k_dflt (refine' c_times (by k_asm) (by k_asm) (by k_asm) (by k_asm) (by k_asm) (by first | exact rfl | assumption) (by ktr_room) (by ktr_units) (by ((first | exact TupIn.of_news (by k_mem) | exact TupIn.of_K (by k_asm) (by k_is) | exact TupIn.mono (by assumption) (fun _ _ e => e) (by ((intro p9 h9; repeat (first | (with_reducible exact h9) | (with_reducible refine List.mem_cons_of_mem _ ?_))))) | exact TupIn.mono (by assumption) (Fr.keep (by assumption)) (by ((intro p9 h9; repeat (first | (with_reducible exact h9) | (with_reducible refine List.mem_cons_of_mem _ ?_)))))))) (by ((first | exact TupIn.of_news (by k_mem) | exact TupIn.of_K (by k_asm) (by k_is) | exact TupIn.mono (by assumption) (fun _ _ e => e) (by ((intro p9 h9; repeat (first | (with_reducible exact h9) | (with_reducible refine List.mem_cons_of_mem _ ?_))))) | exact TupIn.mono (by assumption) (Fr.keep (by assumption)) (by ((intro p9 h9; repeat (first | (with_reducible exact h9) | (with_reducible refine List.mem_cons_of_mem _ ?_)))))))) (by ((first | assumption | omega | exact fracF_den (by first | assumption | omega)))) (by ((first | assumption | omega | exact fracF_den (by first | assumption | omega)))) (Nat.le_trans (by bits_by_make) (by decide)) (Nat.le_trans (by bits_by_make) (by decide)) (Nat.le_trans (by bits_by_make) (by decide)) (Nat.le_trans (by bits_by_make) (by decide)) ?_; k_whole; (((unfold RetT; intro D9 t9 u9 c9 h9 tk9 F9 N9 l9; (try simp only [AllLt, and_true] at l9); (try dsimp only); (try k_sweep); (try k_fold)))))) | (k_here; (with_reducible show wpAny _ _ (call (Value.ref 89) _) _ _ _); k_dflt (refine' c_minus (by k_asm) (by k_asm) (by k_asm) (by k_asm) (by k_asm) (by first | exact rfl | assumption) (by ktr_room) (by ktr_units) (by ((first | exact TupIn.of_news (by k_mem) | exact TupIn.of_K (by k_asm) (by k_is) | exact TupIn.mono (by assumption) (fun _ _ e => e) (by ((intro p9 h9; repeat (first | (with_reducible exact h9) | (with_reducible refine List.mem_cons_of_mem _ ?_))))) | exact TupIn.mono (by assumption) (Fr.keep (by assumption)) (by ((intro p9 h9; repeat (first | (with_reducible exact h9) | (with_reducible refine List.mem_cons_of_mem _ ?_)))))))) (by ((first | exact TupIn.of_news (by k_mem) | exact TupIn.of_K (by k_asm) (by k_is) | exact TupIn.mono (by assumption) (fun _ _ e => e) (by ((intro p9 h9; repeat (first | (with_reducible exact h9) | (with_reducible refine List.mem_cons_of_mem _ ?_))))) | exact TupIn.mono (by assumption) (Fr.keep (by assumption)) (by ((intro p9 h9; repeat (first | (with_reducible exact h9) | (with_reducible refine List.mem_cons_of_mem _ ?_)))))))) (by ((first | assumption | omega | exact fracF_den (by first | assumption | omega)))) (by ((first | assumption | omega | exact fracF_den (by first | assumption | omega)))) (Nat.le_trans (by bits_by_make) (by decide)) (Nat.le_trans (by bits_by_make) (by decide)) (Nat.le_trans (by bits_by_make) (by decide)) (Nat.le_trans (by bits_by_make) (by decide)) ?_; k_whole; (((unfold RetT; intro D9 t9 u9 c9 h9 tk9 F9 N9 l9; (try simp only [AllLt, and_true] at l9); (try dsimp only); (try k_sweep); (try k_fold)))))) | (k_here; (with_reducible show wpAny _ _ (call (Value.ref 82) _) _ _ _); k_dflt (refine' c_frac (by k_asm) (by k_asm) (by k_asm) (by k_asm) (by k_asm) (by first | exact rfl | assumption) (by ktr_room) (by ktr_units) (by ((first | assumption | omega | exact fracF_den (by first | assumption | omega)))) (Nat.le_trans (by bits_by_make) (by decide)) ?_; k_whole; (((unfold RetT; intro D9 t9 u9 c9 h9 tk9 F9 N9 l9; (try simp only [AllLt, and_true] at l9); (try dsimp only); (try k_sweep); (try k_fold)))))) | (k_here; (with_reducible show wpAny _ _ (call (Value.ref 74) _) _ _ _); k_dflt (refine' c_gcd (by k_asm) (by k_asm) (by k_asm) (by k_asm) (by k_asm) (by first | exact rfl | assumption) (by ktr_room) (by ktr_units) (by ((first | assumption | omega | exact fracF_den (by first | assumption | omega)))) ?_; k_whole; (((intro t9 h9 tk9 p9 F9 N9; (try dsimp only); (try k_sweep); (try k_fold))))))) | (k_end; wrow_close) | walk1 | (dsimp only; walk1) | (leave1; walk_say "STEP leave1"; try dsimp only) | fail "no step"))
  all_goals (((refine' end_I (by with_reducible assumption) (by k_asm) (by k_asm) (by ((intro p9 h9; repeat (first | (with_reducible exact h9) | (with_reducible refine List.mem_cons_of_mem _ ?_))))) ?_)))
  all_goals rfl
theorem c_near {n sc b : Int} {t1 t2 t3 : Tok} (B : Below A₀ base outer h₀) (F : Fr h₀ L s.heap m) (X : (Mine.hd.heap_1 w.params).In h₀) (N : News h₀ L s.heap news) (T : Top p loose mean mg mb h₀) (hk : cs.kind = .function) (hd : dp + 3 < recursionLimit) (hu : un + 24 < cLine) (h1 : 0 < sc) (h2 : b ≠ 0) (s1 : intBits n ≤ 2500) (s2 : intBits sc ≤ 1000) (s3 : intBits b ≤ 500) (ret : RetT h₀ L m news s Q (nearF n sc b).1 (nearF n sc b).2) :
    wpAny (model Challenge.rw_xm0723_01.row.prog w) (ktrTop dp un gd cn cs L a ccd cl outer) (call (.ref 175) [.int n t1, .int sc t2, .int b t3]) Q E s := by
  w_on
  refine wpAny_call ?_
  k_dflt (((refine' code_def ?k1 ?k2 ?k3 ?k4 ?k5 ?kA ?kF ?kK ?k6 ?k7 ?k8 ?k9 ?kB ?_ ?c2 ?c3 ?c4 ?c5; (case kA => exact rfl); (case kF => exact rfl); (case kK => assumption); (case k1 => k_asm); (case k2 => k_asm); (case k3 => k_asm); (case k4 => k_asm); (case k5 => k_asm); (case k6 => k_is); (case k7 => k_is); (case k8 => ktr_room); (case k9 => first | exact BindsTo.of_eq rfl | exact binds_K (by k_in) rfl (by k_is) rfl rfl rfl); (case c5 => decide); (case kB => exact locs rfl); (case c2 => exact rfl); (case c3 => exact rfl); (case c4 => exact rfl); k_whole; intro g' L' h' FG' F' N' B' X' T'; (try dsimp only); (try k_fold))))
  (repeat' (first | (k_unfold; (try dsimp only)) | ((with_reducible show wpAny _ _ (call (Value.ref _) _) _ _ _); first | (k_here; (with_reducible show wpAny _ _ (call (Value.ref 138) _) _ _ _); k_dflt (refine' c_rounded (by k_asm) (by k_asm) (by k_asm) (by k_asm) (by k_asm) (by first | exact rfl | assumption) (by ktr_room) (by ktr_units) (by ((first | exact TupIn.of_news (by k_mem) | exact TupIn.of_K (by k_asm) (by k_is) | exact TupIn.mono (by assumption) (fun _ _ e => e) (by ((intro p9 h9; repeat (first | (with_reducible exact h9) | (with_reducible refine List.mem_cons_of_mem _ ?_))))) | exact TupIn.mono (by assumption) (Fr.keep (by assumption)) (by ((intro p9 h9; repeat (first | (with_reducible exact h9) | (with_reducible refine List.mem_cons_of_mem _ ?_)))))))) (by ((first | assumption | omega | exact fracF_den (by first | assumption | omega)))) (Nat.le_trans (by bits_by_make) (by decide)) (Nat.le_trans (by bits_by_make) (by decide)) ?_; k_whole; (((unfold RetI; intro t9 h9 tk9 F9 N9; (try dsimp only); (try k_sweep); (try k_fold)))))) | (k_here; (with_reducible show wpAny _ _ (call (Value.ref 131) _) _ _ _); k_dflt (refine' c_floor (by k_asm) (by k_asm) (by k_asm) (by k_asm) (by k_asm) (by first | exact rfl | assumption) (by ktr_room) (by ktr_units) (by ((first | exact TupIn.of_news (by k_mem) | exact TupIn.of_K (by k_asm) (by k_is) | exact TupIn.mono (by assumption) (fun _ _ e => e) (by ((intro p9 h9; repeat (first | (with_reducible exact h9) | (with_reducible refine List.mem_cons_of_mem _ ?_))))) | exact TupIn.mono (by assumption) (Fr.keep (by assumption)) (by ((intro p9 h9; repeat (first | (with_reducible exact h9) | (with_reducible refine List.mem_cons_of_mem _ ?_)))))))) (by ((first | assumption | omega | exact fracF_den (by first | assumption | omega)))) (Nat.le_trans (by bits_by_make) (by decide)) ?_; k_whole; (((unfold RetI; intro t9 h9 tk9 F9 N9; (try dsimp only); (try k_sweep); (try k_fold)))))) | (k_here; (with_reducible show wpAny _ _ (call (Value.ref 117) _) _ _ _); k_dflt (refine' c_sign (by k_asm) (by k_asm) (by k_asm) (by k_asm) (by k_asm) (by first | exact rfl | assumption) (by ktr_room) (by ktr_units) (by ((first | exact TupIn.of_news (by k_mem) | exact TupIn.of_K (by k_asm) (by k_is) | exact TupIn.mono (by assumption) (fun _ _ e => e) (by ((intro p9 h9; repeat (first | (with_reducible exact h9) | (with_reducible refine List.mem_cons_of_mem _ ?_))))) | exact TupIn.mono (by assumption) (Fr.keep (by assumption)) (by ((intro p9 h9; repeat (first | (with_reducible exact h9) | (with_reducible refine List.mem_cons_of_mem _ ?_)))))))) ?_; k_whole; (((unfold RetI; intro t9 h9 tk9 F9 N9; (try dsimp only); (try k_sweep); (try k_fold)))))) | (k_here; (with_reducible show wpAny _ _ (call (Value.ref 110) _) _ _ _); k_dflt (refine' c_negated (by k_asm) (by k_asm) (by k_asm) (by k_asm) (by k_asm) (by first | exact rfl | assumption) (by ktr_room) (by ktr_units) (by ((first | exact TupIn.of_news (by k_mem) | exact TupIn.of_K (by k_asm) (by k_is) | exact TupIn.mono (by assumption) (fun _ _ e => e) (by ((intro p9 h9; repeat (first | (with_reducible exact h9) | (with_reducible refine List.mem_cons_of_mem _ ?_))))) | exact TupIn.mono (by assumption) (Fr.keep (by assumption)) (by ((intro p9 h9; repeat (first | (with_reducible exact h9) | (with_reducible refine List.mem_cons_of_mem _ ?_)))))))) ?_; k_whole; (((unfold RetT; intro D9 t9 u9 c9 h9 tk9 F9 N9 l9; (try simp only [AllLt, and_true] at l9); (try dsimp only); (try k_sweep); (try k_fold)))))) | (k_here; (with_reducible show wpAny _ _ (call (Value.ref 103) _) _ _ _); k_dflt (refine' c_divided (by k_asm) (by k_asm) (by k_asm) (by k_asm) (by k_asm) (by first | exact rfl | assumption) (by ktr_room) (by ktr_units) (by ((first | exact TupIn.of_news (by k_mem) | exact TupIn.of_K (by k_asm) (by k_is) | exact TupIn.mono (by assumption) (fun _ _ e => e) (by ((intro p9 h9; repeat (first | (with_reducible exact h9) | (with_reducible refine List.mem_cons_of_mem _ ?_))))) | exact TupIn.mono (by assumption) (Fr.keep (by assumption)) (by ((intro p9 h9; repeat (first | (with_reducible exact h9) | (with_reducible refine List.mem_cons_of_mem _ ?_)))))))) (by ((first | exact TupIn.of_news (by k_mem) | exact TupIn.of_K (by k_asm) (by k_is) | exact TupIn.mono (by assumption) (fun _ _ e => e) (by ((intro p9 h9; repeat (first | (with_reducible exact h9) | (with_reducible refine List.mem_cons_of_mem _ ?_))))) | exact TupIn.mono (by assumption) (Fr.keep (by assumption)) (by ((intro p9 h9; repeat (first | (with_reducible exact h9) | (with_reducible refine List.mem_cons_of_mem _ ?_)))))))) (by ((first | assumption | omega | exact fracF_den (by first | assumption | omega)))) (by ((first | assumption | omega | exact fracF_den (by first | assumption | omega)))) (Nat.le_trans (by bits_by_make) (by decide)) (Nat.le_trans (by bits_by_make) (by decide)) (Nat.le_trans (by bits_by_make) (by decide)) (Nat.le_trans (by bits_by_make) (by decide)) ?_; k_whole; (((unfold RetT; intro D9 t9 u9 c9 h9 tk9 F9 N9 l9; (try simp only [AllLt, and_true] at l9); (try dsimp only); (try k_sweep); (try k_fold)))))) | (k_here; (with_reducible show wpAny _ _ (call (Value.ref 96) _) _ _ _); k_dflt (refine' c_times (by k_asm) (by k_asm) (by k_asm) (by k_asm) (by k_asm) (by first | exact rfl | assumption) (by ktr_room) (by ktr_units) (by ((first | exact TupIn.of_news (by k_mem) | exact TupIn.of_K (by k_asm) (by k_is) | exact TupIn.mono (by assumption) (fun _ _ e => e) (by ((intro p9 h9; repeat (first | (with_reducible exact h9) | (with_reducible refine List.mem_cons_of_mem _ ?_))))) | exact TupIn.mono (by assumption) (Fr.keep (by assumption)) (by ((intro p9 h9; repeat (first | (with_reducible exact h9) | (with_reducible refine List.mem_cons_of_mem _ ?_)))))))) (by ((first | exact TupIn.of_news (by k_mem) | exact TupIn.of_K (by k_asm) (by k_is) | exact TupIn.mono (by assumption) (fun _ _ e => e) (by ((intro p9 h9; repeat (first | (with_reducible exact h9) | (with_reducible refine List.mem_cons_of_mem _ ?_))))) | exact TupIn.mono (by assumption) (Fr.keep (by assumption)) (by ((intro p9 h9; repeat (first | (with_reducible exact h9) | (with_reducible refine List.mem_cons_of_mem _ ?_)))))))) (by ((first | assumption | omega | exact fracF_den (by first | assumption | omega)))) (by ((first | assumption | omega | exact fracF_den (by first | assumption | omega)))) (Nat.le_trans (by bits_by_make) (by decide)) (Nat.le_trans (by bits_by_make) (by decide)) (Nat.le_trans (by bits_by_make) (by decide)) (Nat.le_trans (by bits_by_make) (by decide)) ?_; k_whole; (((unfold RetT; intro D9 t9 u9 c9 h9 tk9 F9 N9 l9; (try simp only [AllLt, and_true] at l9); (try dsimp only); (try k_sweep); (try k_fold)))))) | (k_here; (with_reducible show wpAny _ _ (call (Value.ref 89) _) _ _ _); k_dflt (refine' c_minus (by k_asm) (by k_asm) (by k_asm) (by k_asm) (by k_asm) (by first | exact rfl | assumption) (by ktr_room) (by ktr_units) (by ((first | exact TupIn.of_news (by k_mem) | exact TupIn.of_K (by k_asm) (by k_is) | exact TupIn.mono (by assumption) (fun _ _ e => e) (by ((intro p9 h9; repeat (first | (with_reducible exact h9) | (with_reducible refine List.mem_cons_of_mem _ ?_))))) | exact TupIn.mono (by assumption) (Fr.keep (by assumption)) (by ((intro p9 h9; repeat (first | (with_reducible exact h9) | (with_reducible refine List.mem_cons_of_mem _ ?_)))))))) (by ((first | exact TupIn.of_news (by k_mem) | exact TupIn.of_K (by k_asm) (by k_is) | exact TupIn.mono (by assumption) (fun _ _ e => e) (by ((intro p9 h9; repeat (first | (with_reducible exact h9) | (with_reducible refine List.mem_cons_of_mem _ ?_))))) | exact TupIn.mono (by assumption) (Fr.keep (by assumption)) (by ((intro p9 h9; repeat (first | (with_reducible exact h9) | (with_reducible refine List.mem_cons_of_mem _ ?_)))))))) (by ((first | assumption | omega | exact fracF_den (by first | assumption | omega)))) (by ((first | assumption | omega | exact fracF_den (by first | assumption | omega)))) (Nat.le_trans (by bits_by_make) (by decide)) (Nat.le_trans (by bits_by_make) (by decide)) (Nat.le_trans (by bits_by_make) (by decide)) (Nat.le_trans (by bits_by_make) (by decide)) ?_; k_whole; (((unfold RetT; intro D9 t9 u9 c9 h9 tk9 F9 N9 l9; (try simp only [AllLt, and_true] at l9); (try dsimp only); (try k_sweep); (try k_fold)))))) | (k_here; (with_reducible show wpAny _ _ (call (Value.ref 82) _) _ _ _); k_dflt (refine' c_frac (by k_asm) (by k_asm) (by k_asm) (by k_asm) (by k_asm) (by first | exact rfl | assumption) (by ktr_room) (by ktr_units) (by ((first | assumption | omega | exact fracF_den (by first | assumption | omega)))) (Nat.le_trans (by bits_by_make) (by decide)) ?_; k_whole; (((unfold RetT; intro D9 t9 u9 c9 h9 tk9 F9 N9 l9; (try simp only [AllLt, and_true] at l9); (try dsimp only); (try k_sweep); (try k_fold)))))) | (k_here; (with_reducible show wpAny _ _ (call (Value.ref 74) _) _ _ _); k_dflt (refine' c_gcd (by k_asm) (by k_asm) (by k_asm) (by k_asm) (by k_asm) (by first | exact rfl | assumption) (by ktr_room) (by ktr_units) (by ((first | assumption | omega | exact fracF_den (by first | assumption | omega)))) ?_; k_whole; (((intro t9 h9 tk9 p9 F9 N9; (try dsimp only); (try k_sweep); (try k_fold))))))) | (k_end; wrow_close) | walk1 | (dsimp only; walk1) | (leave1; walk_say "STEP leave1"; try dsimp only) | fail "no step"))
  all_goals (((refine' end_T (by with_reducible assumption) (by k_asm) (by k_asm) (by k_mem) (by ((intro p9 h9; repeat (first | (with_reducible exact h9) | (with_reducible refine List.mem_cons_of_mem _ ?_))))) (by (first | tbn_find | exact allLt_of (by assumption) | kcu_lt)) ?_ ?_)))
  all_goals rfl
end
end
section
section
variable {w : World} {p : Program} {loose : List Str} {mean : ExcName → Option Value} {mg mb : Str → Option Value} {dp un : Nat} {gd : Option (List Code)} {cn : Str} {cs : Scope} {a : Addr} {ccd : Value} {cl : List (Str × Addr)} {outer : List Env} {A₀ : Around} {base h₀ : Heap} {L : Addr} {m : Str → Option Value} {news : List (Addr × Obj)} {s : Shared} {Q E : Value → Shared → Prop}
local macro_rules | `(tactic| bits_by_make) => `(tactic| first | exact bits_of_natAbs_le (by assumption) (by assumption) | exact bits_step (by assumption) (by assumption) (by assumption) (by assumption))
local macro_rules | `(tactic| walk_at "binaryOp FloorDiv int int") => `(tactic| (k_here; (with_reducible refine' fdiv_bits ?fb ?fn ?f8 ?_); (case fb => exact step_ne (by assumption)); (case fn => bits_by_make); (case f8 => decide)))
theorem c_series {first sq sc begin : Int} {t1 t2 t3 t4 : Tok} (B : Below A₀ base outer h₀) (F : Fr h₀ L s.heap m) (X : (Mine.hd.heap_1 w.params).In h₀) (N : News h₀ L s.heap news) (T : Top p loose mean mg mb h₀) (hk : cs.kind = .function) (hd : dp + 1 < recursionLimit) (hu : un + 8 < cLine) (h0 : 0 ≤ sq) (h1 : sq ≤ sc) (hc : 0 < sc) (hb : 1 ≤ begin) (hb2 : begin ≤ 2) (s1 : intBits first ≤ 1000) (s2 : intBits sq ≤ 1000) (s3 : intBits sc ≤ 1000)
    (ret : RetI h₀ L m news s Q (serV first sq sc begin)) :
    wpAny (model Challenge.rw_xm0723_01.row.prog w) (ktrTop dp un gd cn cs L a ccd cl outer) (call (.ref 161) [.int first t1, .int sq t2, .int sc t3, .int begin t4]) Q E s := by
  w_on
  refine wpAny_call ?_
  k_dflt (((refine' code_def ?k1 ?k2 ?k3 ?k4 ?k5 ?kA ?kF ?kK ?k6 ?k7 ?k8 ?k9 ?kB ?_ ?c2 ?c3 ?c4 ?c5; (case kA => exact rfl); (case kF => exact rfl); (case kK => assumption); (case k1 => k_asm); (case k2 => k_asm); (case k3 => k_asm); (case k4 => k_asm); (case k5 => k_asm); (case k6 => k_is); (case k7 => k_is); (case k8 => ktr_room); (case k9 => first | exact BindsTo.of_eq rfl | exact binds_K (by k_in) rfl (by k_is) rfl rfl rfl); (case c5 => decide); (case kB => exact locs rfl); (case c2 => exact rfl); (case c3 => exact rfl); (case c4 => exact rfl); k_whole; intro g' L' h' FG' F' N' B' X' T'; (try dsimp only); (try k_fold))))
  k_with_none
  k_with "state" => first | exact ser_st0 (by assumption) | exact ser_st1 (by assumption) (by assumption) (by assumption) (by assumption) (by assumption) (by assumption) (by assumption) (by assumption)
  k_with "measure" => exact ser_meas (by assumption) (by assumption) (by assumption) (by assumption) (by assumption)
  k_with "exec While Compare cons nil" => k_while_given ["first", "square", "scale", "begin"] (fun first sq sc begin script total term step => term.natAbs ≤ first.natAbs ∧ 1 ≤ step ∧ step + 2 * (mu term : Int) ≤ begin + 2 * (mu first : Int) ∧ serF sq sc (mu term + 1) total term step = serV first sq sc begin) (fun first sq sc begin script total term step => mu term) "total" "term" "step"
  (repeat' (first | (k_unfold; (try dsimp only)) | ((with_reducible show wpAny _ _ (call (Value.ref _) _) _ _ _); first | (k_here; (with_reducible show wpAny _ _ (call (Value.ref 138) _) _ _ _); k_dflt (refine' c_rounded (by k_asm) (by k_asm) (by k_asm) (by k_asm) (by k_asm) (by first | exact rfl | assumption) (by ktr_room) (by ktr_units) (by ((first | exact TupIn.of_news (by k_mem) | exact TupIn.of_K (by k_asm) (by k_is) | exact TupIn.mono (by assumption) (fun _ _ e => e) (by ((intro p9 h9; repeat (first | (with_reducible exact h9) | (with_reducible refine List.mem_cons_of_mem _ ?_))))) | exact TupIn.mono (by assumption) (Fr.keep (by assumption)) (by ((intro p9 h9; repeat (first | (with_reducible exact h9) | (with_reducible refine List.mem_cons_of_mem _ ?_)))))))) (by ((first | assumption | omega | exact fracF_den (by first | assumption | omega)))) (Nat.le_trans (by bits_by_make) (by decide)) (Nat.le_trans (by bits_by_make) (by decide)) ?_; k_whole; (((unfold RetI; intro t9 h9 tk9 F9 N9; (try dsimp only); (try k_sweep); (try k_fold)))))) | (k_here; (with_reducible show wpAny _ _ (call (Value.ref 131) _) _ _ _); k_dflt (refine' c_floor (by k_asm) (by k_asm) (by k_asm) (by k_asm) (by k_asm) (by first | exact rfl | assumption) (by ktr_room) (by ktr_units) (by ((first | exact TupIn.of_news (by k_mem) | exact TupIn.of_K (by k_asm) (by k_is) | exact TupIn.mono (by assumption) (fun _ _ e => e) (by ((intro p9 h9; repeat (first | (with_reducible exact h9) | (with_reducible refine List.mem_cons_of_mem _ ?_))))) | exact TupIn.mono (by assumption) (Fr.keep (by assumption)) (by ((intro p9 h9; repeat (first | (with_reducible exact h9) | (with_reducible refine List.mem_cons_of_mem _ ?_)))))))) (by ((first | assumption | omega | exact fracF_den (by first | assumption | omega)))) (Nat.le_trans (by bits_by_make) (by decide)) ?_; k_whole; (((unfold RetI; intro t9 h9 tk9 F9 N9; (try dsimp only); (try k_sweep); (try k_fold)))))) | (k_here; (with_reducible show wpAny _ _ (call (Value.ref 117) _) _ _ _); k_dflt (refine' c_sign (by k_asm) (by k_asm) (by k_asm) (by k_asm) (by k_asm) (by first | exact rfl | assumption) (by ktr_room) (by ktr_units) (by ((first | exact TupIn.of_news (by k_mem) | exact TupIn.of_K (by k_asm) (by k_is) | exact TupIn.mono (by assumption) (fun _ _ e => e) (by ((intro p9 h9; repeat (first | (with_reducible exact h9) | (with_reducible refine List.mem_cons_of_mem _ ?_))))) | exact TupIn.mono (by assumption) (Fr.keep (by assumption)) (by ((intro p9 h9; repeat (first | (with_reducible exact h9) | (with_reducible refine List.mem_cons_of_mem _ ?_)))))))) ?_; k_whole; (((unfold RetI; intro t9 h9 tk9 F9 N9; (try dsimp only); (try k_sweep); (try k_fold)))))) | (k_here; (with_reducible show wpAny _ _ (call (Value.ref 110) _) _ _ _); k_dflt (refine' c_negated (by k_asm) (by k_asm) (by k_asm) (by k_asm) (by k_asm) (by first | exact rfl | assumption) (by ktr_room) (by ktr_units) (by ((first | exact TupIn.of_news (by k_mem) | exact TupIn.of_K (by k_asm) (by k_is) | exact TupIn.mono (by assumption) (fun _ _ e => e) (by ((intro p9 h9; repeat (first | (with_reducible exact h9) | (with_reducible refine List.mem_cons_of_mem _ ?_))))) | exact TupIn.mono (by assumption) (Fr.keep (by assumption)) (by ((intro p9 h9; repeat (first | (with_reducible exact h9) | (with_reducible refine List.mem_cons_of_mem _ ?_)))))))) ?_; k_whole; (((unfold RetT; intro D9 t9 u9 c9 h9 tk9 F9 N9 l9; (try simp only [AllLt, and_true] at l9); (try dsimp only); (try k_sweep); (try k_fold)))))) | (k_here; (with_reducible show wpAny _ _ (call (Value.ref 103) _) _ _ _); k_dflt (refine' c_divided (by k_asm) (by k_asm) (by k_asm) (by k_asm) (by k_asm) (by first | exact rfl | assumption) (by ktr_room) (by ktr_units) (by ((first | exact TupIn.of_news (by k_mem) | exact TupIn.of_K (by k_asm) (by k_is) | exact TupIn.mono (by assumption) (fun _ _ e => e) (by ((intro p9 h9; repeat (first | (with_reducible exact h9) | (with_reducible refine List.mem_cons_of_mem _ ?_))))) | exact TupIn.mono (by assumption) (Fr.keep (by assumption)) (by ((intro p9 h9; repeat (first | (with_reducible exact h9) | (with_reducible refine List.mem_cons_of_mem _ ?_)))))))) (by ((first | exact TupIn.of_news (by k_mem) | exact TupIn.of_K (by k_asm) (by k_is) | exact TupIn.mono (by assumption) (fun _ _ e => e) (by ((intro p9 h9; repeat (first | (with_reducible exact h9) | (with_reducible refine List.mem_cons_of_mem _ ?_))))) | exact TupIn.mono (by assumption) (Fr.keep (by assumption)) (by ((intro p9 h9; repeat (first | (with_reducible exact h9) | (with_reducible refine List.mem_cons_of_mem _ ?_)))))))) (by ((first | assumption | omega | exact fracF_den (by first | assumption | omega)))) (by ((first | assumption | omega | exact fracF_den (by first | assumption | omega)))) (Nat.le_trans (by bits_by_make) (by decide)) (Nat.le_trans (by bits_by_make) (by decide)) (Nat.le_trans (by bits_by_make) (by decide)) (Nat.le_trans (by bits_by_make) (by decide)) ?_; k_whole; (((unfold RetT; intro D9 t9 u9 c9 h9 tk9 F9 N9 l9; (try simp only [AllLt, and_true] at l9); (try dsimp only); (try k_sweep); (try k_fold)))))) | (k_here; (with_reducible show wpAny _ _ (call (Value.ref 96) _) _ _ _); k_dflt (refine' c_times (by k_asm) (by k_asm) (by k_asm) (by k_asm) (by k_asm) (by first | exact rfl | assumption) (by ktr_room) (by ktr_units) (by ((first | exact TupIn.of_news (by k_mem) | exact TupIn.of_K (by k_asm) (by k_is) | exact TupIn.mono (by assumption) (fun _ _ e => e) (by ((intro p9 h9; repeat (first | (with_reducible exact h9) | (with_reducible refine List.mem_cons_of_mem _ ?_))))) | exact TupIn.mono (by assumption) (Fr.keep (by assumption)) (by ((intro p9 h9; repeat (first | (with_reducible exact h9) | (with_reducible refine List.mem_cons_of_mem _ ?_)))))))) (by ((first | exact TupIn.of_news (by k_mem) | exact TupIn.of_K (by k_asm) (by k_is) | exact TupIn.mono (by assumption) (fun _ _ e => e) (by ((intro p9 h9; repeat (first | (with_reducible exact h9) | (with_reducible refine List.mem_cons_of_mem _ ?_))))) | exact TupIn.mono (by assumption) (Fr.keep (by assumption)) (by ((intro p9 h9; repeat (first | (with_reducible exact h9) | (with_reducible refine List.mem_cons_of_mem _ ?_)))))))) (by ((first | assumption | omega | exact fracF_den (by first | assumption | omega)))) (by ((first | assumption | omega | exact fracF_den (by first | assumption | omega)))) (Nat.le_trans (by bits_by_make) (by decide)) (Nat.le_trans (by bits_by_make) (by decide)) (Nat.le_trans (by bits_by_make) (by decide)) (Nat.le_trans (by bits_by_make) (by decide)) ?_; k_whole; (((unfold RetT; intro D9 t9 u9 c9 h9 tk9 F9 N9 l9; (try simp only [AllLt, and_true] at l9); (try dsimp only); (try k_sweep); (try k_fold)))))) | (k_here; (with_reducible show wpAny _ _ (call (Value.ref 89) _) _ _ _); k_dflt (refine' c_minus (by k_asm) (by k_asm) (by k_asm) (by k_asm) (by k_asm) (by first | exact rfl | assumption) (by ktr_room) (by ktr_units) (by ((first | exact TupIn.of_news (by k_mem) | exact TupIn.of_K (by k_asm) (by k_is) | exact TupIn.mono (by assumption) (fun _ _ e => e) (by ((intro p9 h9; repeat (first | (with_reducible exact h9) | (with_reducible refine List.mem_cons_of_mem _ ?_))))) | exact TupIn.mono (by assumption) (Fr.keep (by assumption)) (by ((intro p9 h9; repeat (first | (with_reducible exact h9) | (with_reducible refine List.mem_cons_of_mem _ ?_)))))))) (by ((first | exact TupIn.of_news (by k_mem) | exact TupIn.of_K (by k_asm) (by k_is) | exact TupIn.mono (by assumption) (fun _ _ e => e) (by ((intro p9 h9; repeat (first | (with_reducible exact h9) | (with_reducible refine List.mem_cons_of_mem _ ?_))))) | exact TupIn.mono (by assumption) (Fr.keep (by assumption)) (by ((intro p9 h9; repeat (first | (with_reducible exact h9) | (with_reducible refine List.mem_cons_of_mem _ ?_)))))))) (by ((first | assumption | omega | exact fracF_den (by first | assumption | omega)))) (by ((first | assumption | omega | exact fracF_den (by first | assumption | omega)))) (Nat.le_trans (by bits_by_make) (by decide)) (Nat.le_trans (by bits_by_make) (by decide)) (Nat.le_trans (by bits_by_make) (by decide)) (Nat.le_trans (by bits_by_make) (by decide)) ?_; k_whole; (((unfold RetT; intro D9 t9 u9 c9 h9 tk9 F9 N9 l9; (try simp only [AllLt, and_true] at l9); (try dsimp only); (try k_sweep); (try k_fold)))))) | (k_here; (with_reducible show wpAny _ _ (call (Value.ref 82) _) _ _ _); k_dflt (refine' c_frac (by k_asm) (by k_asm) (by k_asm) (by k_asm) (by k_asm) (by first | exact rfl | assumption) (by ktr_room) (by ktr_units) (by ((first | assumption | omega | exact fracF_den (by first | assumption | omega)))) (Nat.le_trans (by bits_by_make) (by decide)) ?_; k_whole; (((unfold RetT; intro D9 t9 u9 c9 h9 tk9 F9 N9 l9; (try simp only [AllLt, and_true] at l9); (try dsimp only); (try k_sweep); (try k_fold)))))) | (k_here; (with_reducible show wpAny _ _ (call (Value.ref 74) _) _ _ _); k_dflt (refine' c_gcd (by k_asm) (by k_asm) (by k_asm) (by k_asm) (by k_asm) (by first | exact rfl | assumption) (by ktr_room) (by ktr_units) (by ((first | assumption | omega | exact fracF_den (by first | assumption | omega)))) ?_; k_whole; (((intro t9 h9 tk9 p9 F9 N9; (try dsimp only); (try k_sweep); (try k_fold))))))) | (k_end; wrow_close) | walk1 | (dsimp only; walk1) | (leave1; walk_say "STEP leave1"; try dsimp only) | fail "no step"))
  all_goals (((refine' end_I (by with_reducible assumption) (by k_asm) (by k_asm) (by ((intro p9 h9; repeat (first | (with_reducible exact h9) | (with_reducible refine List.mem_cons_of_mem _ ?_))))) ?_)))
  all_goals trace_state
  all_goals exact ser_st2 (by assumption) (by assumption)
  k_with_none
end
end
section
local macro_rules | `(tactic| walk_at "none") => `(tactic| skip)
section
variable {w : World} {p : Program} {loose : List Str} {mean : ExcName → Option Value} {mg mb : Str → Option Value} {dp un : Nat} {gd : Option (List Code)} {cn : Str} {cs : Scope} {a : Addr} {ccd : Value} {cl : List (Str × Addr)} {outer : List Env} {A₀ : Around} {base h₀ : Heap} {L : Addr} {m : Str → Option Value} {news : List (Addr × Obj)} {s : Shared} {Q E : Value → Shared → Prop}
local macro_rules | `(tactic| k_all) => `(tactic| with_reducible assumption)
local macro_rules | `(tactic| walk_at "binaryOp Mult int int") => `(tactic| (k_here; (simp only [Int.reduceToNat, List.getD_cons_succ, List.getD_cons_zero]); walk1))
theorem c_take0 {S : Addr} {x y top : Int} {t u tt : Tok} {c : Nat} {rest : List (Addr × Obj)} (B : Below A₀ base outer h₀) (F : Fr h₀ L s.heap m) (X : (Mine.hd.heap_1 w.params).In h₀) (N : News h₀ L s.heap news) (T : Top p loose mean mg mb h₀) (hk : cs.kind = .function) (hd : dp + 1 < recursionLimit) (hu : un + 8 < cLine) (g0 : 0 ≤ x) (gt : 0 < top) (gb : intBits top ≤ 20) (s2 : intBits y ≤ 64) (off : ∀ p ∈ rest, p.1 ≠ S) (hnews : news = (S, listOf #[.int x t, .int y u] c) :: rest)
    (ret : RetK h₀ L m rest S s Q top) :
    wpAny (model Challenge.rw_xm0723_01.row.prog w) (ktrTop dp un gd cn cs L a ccd cl outer) (call (.ref 289) [.ref S, .int top tt]) Q E s := by
  subst hnews
  w_on
  refine wpAny_call ?_
  k_dflt (((refine' code_def ?k1 ?k2 ?k3 ?k4 ?k5 ?kA ?kF ?kK ?k6 ?k7 ?k8 ?k9 ?kB ?_ ?c2 ?c3 ?c4 ?c5; (case kA => exact rfl); (case kF => exact rfl); (case kK => assumption); (case k1 => k_asm); (case k2 => k_asm); (case k3 => k_asm); (case k4 => k_asm); (case k5 => k_asm); (case k6 => k_is); (case k7 => k_is); (case k8 => ktr_room); (case k9 => first | exact BindsTo.of_eq rfl | exact binds_K (by k_in) rfl (by k_is) rfl rfl rfl); (case c5 => decide); (case kB => exact locs rfl); (case c2 => exact rfl); (case c3 => exact rfl); (case c4 => exact rfl); k_whole; intro g' L' h' FG' F' N' B' X' T'; (try dsimp only); (try k_fold))))
  (repeat' (first | (k_unfold; (try dsimp only)) | ((with_reducible show wpAny _ _ (call (Value.ref _) _) _ _ _); first | (k_here; (with_reducible show wpAny _ _ (call (Value.ref 74) _) _ _ _); k_dflt (refine' c_gcd (by k_asm) (by k_asm) (by k_asm) (by k_asm) (by k_asm) (by first | exact rfl | assumption) (by ktr_room) (by ktr_units) (by ((first | assumption | omega | exact fracF_den (by first | assumption | omega)))) ?_; k_whole; (((intro t9 h9 tk9 p9 F9 N9; (try dsimp only); (try k_sweep); (try k_fold))))))) | (k_end; wrow_close) | walk1 | (dsimp only; walk1) | (leave1; walk_say "STEP leave1"; try dsimp only) | fail "no step"))
  · exact ret _ _ _ _ _ _ _ _ _ (take_1 gt (by assumption)).1 (take_1 gt (by assumption)).2.1 (take_1 gt (by assumption)).2.2 s2 (by k_asm) (by k_asm)
  · exact ret _ _ _ _ _ _ _ _ _ (take_2 gt).1 (take_2 gt).2 g0 take_3 (by k_asm) (by k_asm)
end
end
section
section
variable {w : World} {p : Program} {loose : List Str} {mean : ExcName → Option Value} {mg mb : Str → Option Value} {dp un : Nat} {gd : Option (List Code)} {cn : Str} {cs : Scope} {a : Addr} {ccd : Value} {cl : List (Str × Addr)} {outer : List Env} {A₀ : Around} {base h₀ : Heap} {L : Addr} {m : Str → Option Value} {news : List (Addr × Obj)} {s : Shared} {Q E : Value → Shared → Prop}
local macro_rules | `(tactic| walk_at "UnrEndW") => `(tactic| (refine' unrEndW_1 ?uF ?uN ?o1 ?off ⟨?us, ?_⟩; (case uF => assumption); (case uN => assumption); (case o1 => k_ne); (case off => k_all); (case us => k_subL)))
local macro_rules | `(tactic| walk_at "pyIter ref") => `(tactic| (k_here; (with_reducible show wpAny _ _ (pyIter (Value.ref _)) (fun it s₂ => TurnsAt _ _ _ _ _ _ _ _ _ it s₂) _ _); k_dflt (refine' iter_tupTurns ?tH ?tF ?tN ?tM ?tC ?tD ?_; (case tH => exact rfl); (case tF => k_asm); (case tN => k_asm); (case tM => k_mem); (case tC => exact rfl); (case tD => exact rfl); k_whole); intro i' l1; (try k_lt l1)))
local macro_rules | `(tactic| walk_at "newTuple") => `(tactic| (k_here; dsimp only; walk1))
local macro_rules | `(tactic| walk_at "storeName") => `(tactic| (k_here; dsimp only; walk1))
theorem c_lawtan {n : Int} {tn : Tok} (B : Below A₀ base outer h₀) (F : Fr h₀ L s.heap m) (X : (Mine.hd.heap_1 w.params).In h₀) (N : News h₀ L s.heap news) (T : Top p loose mean mg mb h₀) (hk : cs.kind = .function) (hd : dp + 2 < recursionLimit) (hu : un + 16 < cLine) (g1 : 0 ≤ n) (g2 : n ≤ 360)
    (ret : RetT h₀ L m news s Q (lawTanF n).1 (lawTanF n).2) :
    wpAny (model Challenge.rw_xm0723_01.row.prog w) (ktrTop dp un gd cn cs L a ccd cl outer) (call (.ref 308) [.int n tn]) Q E s := by
  have s1 : intBits n ≤ 64 := intBits_le_64 (by omega) (by omega)
  w_on
  refine wpAny_call ?_
  k_dflt (((refine' code_def ?k1 ?k2 ?k3 ?k4 ?k5 ?kA ?kF ?kK ?k6 ?k7 ?k8 ?k9 ?kB ?_ ?c2 ?c3 ?c4 ?c5; (case kA => exact rfl); (case kF => exact rfl); (case kK => assumption); (case k1 => k_asm); (case k2 => k_asm); (case k3 => k_asm); (case k4 => k_asm); (case k5 => k_asm); (case k6 => k_is); (case k7 => k_is); (case k8 => ktr_room); (case k9 => first | exact BindsTo.of_eq rfl | exact binds_K (by k_in) rfl (by k_is) rfl rfl rfl); (case c5 => decide); (case kB => exact locs rfl); (case c2 => exact rfl); (case c3 => exact rfl); (case c4 => exact rfl); k_whole; intro g' L' h' FG' F' N' B' X' T'; (try dsimp only); (try k_fold))))
  (repeat' (first | (k_unfold; (try dsimp only)) | ((with_reducible show wpAny _ _ (call (Value.ref _) _) _ _ _); first | (k_here; (with_reducible show wpAny _ _ (call (Value.ref 138) _) _ _ _); k_dflt (refine' c_rounded (by k_asm) (by k_asm) (by k_asm) (by k_asm) (by k_asm) (by first | exact rfl | assumption) (by ktr_room) (by ktr_units) (by ((first | exact TupIn.of_news (by k_mem) | exact TupIn.of_K (by k_asm) (by k_is) | exact TupIn.mono (by assumption) (fun _ _ e => e) (by ((intro p9 h9; repeat (first | (with_reducible exact h9) | (with_reducible refine List.mem_cons_of_mem _ ?_))))) | exact TupIn.mono (by assumption) (Fr.keep (by assumption)) (by ((intro p9 h9; repeat (first | (with_reducible exact h9) | (with_reducible refine List.mem_cons_of_mem _ ?_)))))))) (by ((first | assumption | omega | exact fracF_den (by first | assumption | omega)))) (Nat.le_trans (by bits_by_make) (by decide)) (Nat.le_trans (by bits_by_make) (by decide)) ?_; k_whole; (((unfold RetI; intro t9 h9 tk9 F9 N9; (try dsimp only); (try k_sweep); (try k_fold)))))) | (k_here; (with_reducible show wpAny _ _ (call (Value.ref 131) _) _ _ _); k_dflt (refine' c_floor (by k_asm) (by k_asm) (by k_asm) (by k_asm) (by k_asm) (by first | exact rfl | assumption) (by ktr_room) (by ktr_units) (by ((first | exact TupIn.of_news (by k_mem) | exact TupIn.of_K (by k_asm) (by k_is) | exact TupIn.mono (by assumption) (fun _ _ e => e) (by ((intro p9 h9; repeat (first | (with_reducible exact h9) | (with_reducible refine List.mem_cons_of_mem _ ?_))))) | exact TupIn.mono (by assumption) (Fr.keep (by assumption)) (by ((intro p9 h9; repeat (first | (with_reducible exact h9) | (with_reducible refine List.mem_cons_of_mem _ ?_)))))))) (by ((first | assumption | omega | exact fracF_den (by first | assumption | omega)))) (Nat.le_trans (by bits_by_make) (by decide)) ?_; k_whole; (((unfold RetI; intro t9 h9 tk9 F9 N9; (try dsimp only); (try k_sweep); (try k_fold)))))) | (k_here; (with_reducible show wpAny _ _ (call (Value.ref 117) _) _ _ _); k_dflt (refine' c_sign (by k_asm) (by k_asm) (by k_asm) (by k_asm) (by k_asm) (by first | exact rfl | assumption) (by ktr_room) (by ktr_units) (by ((first | exact TupIn.of_news (by k_mem) | exact TupIn.of_K (by k_asm) (by k_is) | exact TupIn.mono (by assumption) (fun _ _ e => e) (by ((intro p9 h9; repeat (first | (with_reducible exact h9) | (with_reducible refine List.mem_cons_of_mem _ ?_))))) | exact TupIn.mono (by assumption) (Fr.keep (by assumption)) (by ((intro p9 h9; repeat (first | (with_reducible exact h9) | (with_reducible refine List.mem_cons_of_mem _ ?_)))))))) ?_; k_whole; (((unfold RetI; intro t9 h9 tk9 F9 N9; (try dsimp only); (try k_sweep); (try k_fold)))))) | (k_here; (with_reducible show wpAny _ _ (call (Value.ref 110) _) _ _ _); k_dflt (refine' c_negated (by k_asm) (by k_asm) (by k_asm) (by k_asm) (by k_asm) (by first | exact rfl | assumption) (by ktr_room) (by ktr_units) (by ((first | exact TupIn.of_news (by k_mem) | exact TupIn.of_K (by k_asm) (by k_is) | exact TupIn.mono (by assumption) (fun _ _ e => e) (by ((intro p9 h9; repeat (first | (with_reducible exact h9) | (with_reducible refine List.mem_cons_of_mem _ ?_))))) | exact TupIn.mono (by assumption) (Fr.keep (by assumption)) (by ((intro p9 h9; repeat (first | (with_reducible exact h9) | (with_reducible refine List.mem_cons_of_mem _ ?_)))))))) ?_; k_whole; (((unfold RetT; intro D9 t9 u9 c9 h9 tk9 F9 N9 l9; (try simp only [AllLt, and_true] at l9); (try dsimp only); (try k_sweep); (try k_fold)))))) | (k_here; (with_reducible show wpAny _ _ (call (Value.ref 103) _) _ _ _); k_dflt (refine' c_divided (by k_asm) (by k_asm) (by k_asm) (by k_asm) (by k_asm) (by first | exact rfl | assumption) (by ktr_room) (by ktr_units) (by ((first | exact TupIn.of_news (by k_mem) | exact TupIn.of_K (by k_asm) (by k_is) | exact TupIn.mono (by assumption) (fun _ _ e => e) (by ((intro p9 h9; repeat (first | (with_reducible exact h9) | (with_reducible refine List.mem_cons_of_mem _ ?_))))) | exact TupIn.mono (by assumption) (Fr.keep (by assumption)) (by ((intro p9 h9; repeat (first | (with_reducible exact h9) | (with_reducible refine List.mem_cons_of_mem _ ?_)))))))) (by ((first | exact TupIn.of_news (by k_mem) | exact TupIn.of_K (by k_asm) (by k_is) | exact TupIn.mono (by assumption) (fun _ _ e => e) (by ((intro p9 h9; repeat (first | (with_reducible exact h9) | (with_reducible refine List.mem_cons_of_mem _ ?_))))) | exact TupIn.mono (by assumption) (Fr.keep (by assumption)) (by ((intro p9 h9; repeat (first | (with_reducible exact h9) | (with_reducible refine List.mem_cons_of_mem _ ?_)))))))) (by ((first | assumption | omega | exact fracF_den (by first | assumption | omega)))) (by ((first | assumption | omega | exact fracF_den (by first | assumption | omega)))) (Nat.le_trans (by bits_by_make) (by decide)) (Nat.le_trans (by bits_by_make) (by decide)) (Nat.le_trans (by bits_by_make) (by decide)) (Nat.le_trans (by bits_by_make) (by decide)) ?_; k_whole; (((unfold RetT; intro D9 t9 u9 c9 h9 tk9 F9 N9 l9; (try simp only [AllLt, and_true] at l9); (try dsimp only); (try k_sweep); (try k_fold)))))) | (k_here; (with_reducible show wpAny _ _ (call (Value.ref 96) _) _ _ _); k_dflt (refine' c_times (by k_asm) (by k_asm) (by k_asm) (by k_asm) (by k_asm) (by first | exact rfl | assumption) (by ktr_room) (by ktr_units) (by ((first | exact TupIn.of_news (by k_mem) | exact TupIn.of_K (by k_asm) (by k_is) | exact TupIn.mono (by assumption) (fun _ _ e => e) (by ((intro p9 h9; repeat (first | (with_reducible exact h9) | (with_reducible refine List.mem_cons_of_mem _ ?_))))) | exact TupIn.mono (by assumption) (Fr.keep (by assumption)) (by ((intro p9 h9; repeat (first | (with_reducible exact h9) | (with_reducible refine List.mem_cons_of_mem _ ?_)))))))) (by ((first | exact TupIn.of_news (by k_mem) | exact TupIn.of_K (by k_asm) (by k_is) | exact TupIn.mono (by assumption) (fun _ _ e => e) (by ((intro p9 h9; repeat (first | (with_reducible exact h9) | (with_reducible refine List.mem_cons_of_mem _ ?_))))) | exact TupIn.mono (by assumption) (Fr.keep (by assumption)) (by ((intro p9 h9; repeat (first | (with_reducible exact h9) | (with_reducible refine List.mem_cons_of_mem _ ?_)))))))) (by ((first | assumption | omega | exact fracF_den (by first | assumption | omega)))) (by ((first | assumption | omega | exact fracF_den (by first | assumption | omega)))) (Nat.le_trans (by bits_by_make) (by decide)) (Nat.le_trans (by bits_by_make) (by decide)) (Nat.le_trans (by bits_by_make) (by decide)) (Nat.le_trans (by bits_by_make) (by decide)) ?_; k_whole; (((unfold RetT; intro D9 t9 u9 c9 h9 tk9 F9 N9 l9; (try simp only [AllLt, and_true] at l9); (try dsimp only); (try k_sweep); (try k_fold)))))) | (k_here; (with_reducible show wpAny _ _ (call (Value.ref 89) _) _ _ _); k_dflt (refine' c_minus (by k_asm) (by k_asm) (by k_asm) (by k_asm) (by k_asm) (by first | exact rfl | assumption) (by ktr_room) (by ktr_units) (by ((first | exact TupIn.of_news (by k_mem) | exact TupIn.of_K (by k_asm) (by k_is) | exact TupIn.mono (by assumption) (fun _ _ e => e) (by ((intro p9 h9; repeat (first | (with_reducible exact h9) | (with_reducible refine List.mem_cons_of_mem _ ?_))))) | exact TupIn.mono (by assumption) (Fr.keep (by assumption)) (by ((intro p9 h9; repeat (first | (with_reducible exact h9) | (with_reducible refine List.mem_cons_of_mem _ ?_)))))))) (by ((first | exact TupIn.of_news (by k_mem) | exact TupIn.of_K (by k_asm) (by k_is) | exact TupIn.mono (by assumption) (fun _ _ e => e) (by ((intro p9 h9; repeat (first | (with_reducible exact h9) | (with_reducible refine List.mem_cons_of_mem _ ?_))))) | exact TupIn.mono (by assumption) (Fr.keep (by assumption)) (by ((intro p9 h9; repeat (first | (with_reducible exact h9) | (with_reducible refine List.mem_cons_of_mem _ ?_)))))))) (by ((first | assumption | omega | exact fracF_den (by first | assumption | omega)))) (by ((first | assumption | omega | exact fracF_den (by first | assumption | omega)))) (Nat.le_trans (by bits_by_make) (by decide)) (Nat.le_trans (by bits_by_make) (by decide)) (Nat.le_trans (by bits_by_make) (by decide)) (Nat.le_trans (by bits_by_make) (by decide)) ?_; k_whole; (((unfold RetT; intro D9 t9 u9 c9 h9 tk9 F9 N9 l9; (try simp only [AllLt, and_true] at l9); (try dsimp only); (try k_sweep); (try k_fold)))))) | (k_here; (with_reducible show wpAny _ _ (call (Value.ref 82) _) _ _ _); k_dflt (refine' c_frac (by k_asm) (by k_asm) (by k_asm) (by k_asm) (by k_asm) (by first | exact rfl | assumption) (by ktr_room) (by ktr_units) (by ((first | assumption | omega | exact fracF_den (by first | assumption | omega)))) (Nat.le_trans (by bits_by_make) (by decide)) ?_; k_whole; (((unfold RetT; intro D9 t9 u9 c9 h9 tk9 F9 N9 l9; (try simp only [AllLt, and_true] at l9); (try dsimp only); (try k_sweep); (try k_fold)))))) | (k_here; (with_reducible show wpAny _ _ (call (Value.ref 74) _) _ _ _); k_dflt (refine' c_gcd (by k_asm) (by k_asm) (by k_asm) (by k_asm) (by k_asm) (by first | exact rfl | assumption) (by ktr_room) (by ktr_units) (by ((first | assumption | omega | exact fracF_den (by first | assumption | omega)))) ?_; k_whole; (((intro t9 h9 tk9 p9 F9 N9; (try dsimp only); (try k_sweep); (try k_fold))))))) | (k_end; wrow_close) | walk1 | (dsimp only; walk1) | (leave1; walk_say "STEP leave1"; try dsimp only) | fail "no step"))
  all_goals (((refine' end_T (by with_reducible assumption) (by k_asm) (by k_asm) (by k_mem) (by ((intro p9 h9; repeat (first | (with_reducible exact h9) | (with_reducible refine List.mem_cons_of_mem _ ?_))))) (by (first | tbn_find | exact allLt_of (by assumption) | kcu_lt)) ?_ ?_)))
  all_goals first | (rw [lawTanF_pos (by with_reducible assumption)]; rfl) | (rw [lawTanF_neg (by with_reducible assumption)]; rfl)
theorem c_lawtanV {n : Int} {tn : Tok} (B : Below A₀ base outer h₀) (F : Fr h₀ L s.heap m) (X : (Mine.hd.heap_1 w.params).In h₀) (N : News h₀ L s.heap news) (T : Top p loose mean mg mb h₀) (hk : cs.kind = .function) (hd : dp + 2 < recursionLimit) (hu : un + 16 < cLine) (g1 : 0 ≤ n) (g2 : n ≤ 360)
    (ret : RetTV h₀ L m news s Q (lawTanF n)) :
    wpAny (model Challenge.rw_xm0723_01.row.prog w) (ktrTop dp un gd cn cs L a ccd cl outer) (call (.ref 308) [.int n tn]) Q E s := c_lawtan B F X N T hk hd hu g1 g2 (ret.to (bits_lawTan g1 g2).1 (bits_lawTan g1 g2).2)
end
end
section
section
variable {w : World} {p : Program} {loose : List Str} {mean : ExcName → Option Value} {mg mb : Str → Option Value} {dp un : Nat} {gd : Option (List Code)} {cn : Str} {cs : Scope} {a : Addr} {ccd : Value} {cl : List (Str × Addr)} {outer : List Env} {A₀ : Around} {base h₀ : Heap} {L : Addr} {m : Str → Option Value} {news : List (Addr × Obj)} {s : Shared} {Q E : Value → Shared → Prop}
variable {hdl : Option Value}
local macro_rules | `(tactic| walk_at "setAttr ref") => `(tactic| (k_here; k_dflt (refine' x_set ?k1 ?k2 ?k3 ?k4 ?k5 ?k6 ?k7 ?k8 ?k9 ?_; (case k1 => k_asm); (case k2 => k_asm); (case k3 => k_asm); (case k4 => with_reducible assumption); (case k5 => k_is); (case k6 => k_is); (case k7 => exact rfl); (case k8 => exact rfl); (case k9 => k_is); k_whole; intro dx' hsh' tk' h' tk2' F' N' l1 l2; (try k_sweep))))
theorem c_mkN {v : Value} (B : Below A₀ base outer h₀) (F : Fr h₀ L s.heap m) (X : (Mine.hd.heap_1 w.params).In h₀) (N : News h₀ L s.heap news) (T : Top p loose mean mg mb h₀) (hk : cs.kind = .function) (hd : dp + 2 < recursionLimit) (hu : un + 16 < cLine)
    (ret : RetX 51 h₀ L m news s Q v) :
    wpAny (model Challenge.rw_xm0723_01.row.prog w) { handled := hdl, depth := dp, frames := some (envX cn cs L a ccd cl :: outer), guards := gd, units := un } (call (.ref 51) [v]) Q E s := by
  w_on
  refine wpAny_call ?_
  k_dflt (refine' x_make (fI := 35) ?k1 ?k2 ?k3 ?k4 ?k5 ?k6 ?k7 ?k8 ?k9 ?kA ?_; (case k1 => k_asm); (case k2 => k_asm); (case k3 => k_asm); (case k4 => k_is); (case k5 => exact rfl); (case k6 => exact rfl); (case k7 => exact rfl); (case k8 => (show 1 ≤ sizeLine); (rw [sizeLine_eq]; omega)); (case k9 => k_is); (case kA => k_is))
  intro e9 t9 h9 F9 N9 l1 l2
  have off9 : ∀ p ∈ (t9, tupN [v]) :: news, p.1 ≠ e9 := fun p hp => by
    rcases List.mem_cons.mp hp with rfl | hp
    · exact Nat.ne_of_lt l2
    · exact Nat.ne_of_lt (Nat.lt_trans (l1 p hp) l2)
  k_dflt (((refine' code_def ?k1 ?k2 ?k3 ?k4 ?k5 ?kA ?kF ?kK ?k6 ?k7 ?k8 ?k9 ?kB ?_ ?c2 ?c3 ?c4 ?c5; (case kA => exact rfl); (case kF => exact rfl); (case kK => assumption); (case k1 => k_asm); (case k2 => k_asm); (case k3 => k_asm); (case k4 => k_asm); (case k5 => k_asm); (case k6 => k_is); (case k7 => k_is); (case k8 => ktr_room); (case k9 => first | exact BindsTo.of_eq rfl | exact binds_K (by k_in) rfl (by k_is) rfl rfl rfl); (case c5 => decide); (case kB => exact locs rfl); (case c2 => exact rfl); (case c3 => exact rfl); (case c4 => exact rfl); k_whole; intro g' L' h' FG' F' N' B' X' T'; (try dsimp only); (try k_fold))))
  (repeat' (first | (k_unfold; (try dsimp only)) | ((with_reducible show wpAny _ _ (call (Value.ref _) _) _ _ _); first | (k_here; (with_reducible show wpAny _ _ (call (Value.ref 74) _) _ _ _); k_dflt (refine' c_gcd (by k_asm) (by k_asm) (by k_asm) (by k_asm) (by k_asm) (by first | exact rfl | assumption) (by ktr_room) (by ktr_units) (by ((first | assumption | omega | exact fracF_den (by first | assumption | omega)))) ?_; k_whole; (((intro t9 h9 tk9 p9 F9 N9; (try dsimp only); (try k_sweep); (try k_fold))))))) | (k_end; wrow_close) | walk1 | (dsimp only; walk1) | (leave1; walk_say "STEP leave1"; try dsimp only) | fail "no step"))
  all_goals exact ret e9 _ t9 _ _ _ _ (by with_reducible assumption) (by with_reducible assumption) l1 l2 (by with_reducible assumption)
theorem c_mkS {v : Value} (B : Below A₀ base outer h₀) (F : Fr h₀ L s.heap m) (X : (Mine.hd.heap_1 w.params).In h₀) (N : News h₀ L s.heap news) (T : Top p loose mean mg mb h₀) (hk : cs.kind = .function) (hd : dp + 2 < recursionLimit) (hu : un + 16 < cLine)
    (ret : RetX 63 h₀ L m news s Q v) :
    wpAny (model Challenge.rw_xm0723_01.row.prog w) { handled := hdl, depth := dp, frames := some (envX cn cs L a ccd cl :: outer), guards := gd, units := un } (call (.ref 63) [v]) Q E s := by
  w_on
  refine wpAny_call ?_
  k_dflt (refine' x_make (fI := 35) ?k1 ?k2 ?k3 ?k4 ?k5 ?k6 ?k7 ?k8 ?k9 ?kA ?_; (case k1 => k_asm); (case k2 => k_asm); (case k3 => k_asm); (case k4 => k_is); (case k5 => exact rfl); (case k6 => exact rfl); (case k7 => exact rfl); (case k8 => (show 1 ≤ sizeLine); (rw [sizeLine_eq]; omega)); (case k9 => k_is); (case kA => k_is))
  intro e9 t9 h9 F9 N9 l1 l2
  have off9 : ∀ p ∈ (t9, tupN [v]) :: news, p.1 ≠ e9 := fun p hp => by
    rcases List.mem_cons.mp hp with rfl | hp
    · exact Nat.ne_of_lt l2
    · exact Nat.ne_of_lt (Nat.lt_trans (l1 p hp) l2)
  k_dflt (((refine' code_def ?k1 ?k2 ?k3 ?k4 ?k5 ?kA ?kF ?kK ?k6 ?k7 ?k8 ?k9 ?kB ?_ ?c2 ?c3 ?c4 ?c5; (case kA => exact rfl); (case kF => exact rfl); (case kK => assumption); (case k1 => k_asm); (case k2 => k_asm); (case k3 => k_asm); (case k4 => k_asm); (case k5 => k_asm); (case k6 => k_is); (case k7 => k_is); (case k8 => ktr_room); (case k9 => first | exact BindsTo.of_eq rfl | exact binds_K (by k_in) rfl (by k_is) rfl rfl rfl); (case c5 => decide); (case kB => exact locs rfl); (case c2 => exact rfl); (case c3 => exact rfl); (case c4 => exact rfl); k_whole; intro g' L' h' FG' F' N' B' X' T'; (try dsimp only); (try k_fold))))
  (repeat' (first | (k_unfold; (try dsimp only)) | ((with_reducible show wpAny _ _ (call (Value.ref _) _) _ _ _); first | (k_here; (with_reducible show wpAny _ _ (call (Value.ref 74) _) _ _ _); k_dflt (refine' c_gcd (by k_asm) (by k_asm) (by k_asm) (by k_asm) (by k_asm) (by first | exact rfl | assumption) (by ktr_room) (by ktr_units) (by ((first | assumption | omega | exact fracF_den (by first | assumption | omega)))) ?_; k_whole; (((intro t9 h9 tk9 p9 F9 N9; (try dsimp only); (try k_sweep); (try k_fold))))))) | (k_end; wrow_close) | walk1 | (dsimp only; walk1) | (leave1; walk_say "STEP leave1"; try dsimp only) | fail "no step"))
  all_goals exact ret e9 _ t9 _ _ _ _ (by with_reducible assumption) (by with_reducible assumption) l1 l2 (by with_reducible assumption)
end
end
section
section
variable {w : World} {p : Program} {loose : List Str} {mean : ExcName → Option Value} {mg mb : Str → Option Value} {dp un : Nat} {gd : Option (List Code)} {cn : Str} {cs : Scope} {a : Addr} {ccd : Value} {cl : List (Str × Addr)} {outer : List Env} {A₀ : Around} {base h₀ : Heap} {L : Addr} {m : Str → Option Value} {news : List (Addr × Obj)} {s : Shared} {Q E : Value → Shared → Prop}
local macro_rules | `(tactic| walk_at "eval ListComp") => `(tactic| (k_here; lct_look; lcg_calm; k_dflt (refine ListComp_TT (F₀ := by k_asm) (by with_unfolding_all rfl) (by decide) (by rfl) (by decide) (by rfl) ?_)))
local macro_rules | `(tactic| walk_at "CompEnd") => `(tactic| (k_here; k_dflt (refine' compEnd_here ?cF ?cN ?co ?cs ?_; (case cF => k_asm); (case cN => k_asm); (case co => assumption); (case cs => exact ⟨_, by k_mem⟩); k_whole)))
local macro_rules | `(tactic| walk_at "SrcTT") => `(tactic| (k_here; k_dflt (refine SrcTT.ledger (by rfl) (by k_asm) (by k_asm) (by k_mem) (by first | size_fits | exact Nat.le_of_ble_eq_true rfl) ?_; intro g'; lct_lit)))
theorem c_deg {n : Int} {tn : Tok} (B : Below A₀ base outer h₀) (F : Fr h₀ L s.heap m) (X : (Mine.hd.heap_1 w.params).In h₀) (N : News h₀ L s.heap news) (T : Top p loose mean mg mb h₀) (hk : cs.kind = .function) (hd : dp + 3 < recursionLimit) (hu : un + 24 < cLine) (s1 : intBits n ≤ 50)
    (ret : RetT h₀ L m news s Q (degF n).1 (degF n).2) :
    wpAny (model Challenge.rw_xm0723_01.row.prog w) (ktrTop dp un gd cn cs L a ccd cl outer) (call (.ref 301) [.int n tn]) Q E s := by
  w_on
  refine wpAny_call ?_
  k_dflt (((refine' code_defC ?k1 ?k2 ?k3 ?k4 ?k5 ?kA ?kF ?kK ?k6 ?k7 ?k8 ?k9 ?kB ?kD ?_ ?c2 ?c3 ?c4; (case kA => exact rfl); (case kF => exact rfl); (case kK => first | exact rfl | assumption); (case k1 => k_asm); (case k2 => k_asm); (case k3 => k_asm); (case k4 => k_asm); (case k5 => k_asm); (case k6 => k_is); (case k7 => k_is); (case k8 => ktr_room); (case k9 => exact BindsTo.of_eq rfl); (case kB => exact rfl); (case kD => decide +kernel); (case c2 => exact rfl); (case c3 => exact rfl); (case c4 => exact rfl); k_whole; intro g' L' h' tk' cells' FG' F' N' Y' B' X' T' l1; (try k_lt l1); k_cells Y'; (try simp only [List.cons_append, List.nil_append] at N'); (try dsimp only); (try k_fold))))
  (repeat' (first | (k_unfold; (try dsimp only)) | ((with_reducible show wpAny _ _ (call (Value.ref _) _) _ _ _); first | (k_here; (with_reducible show wpAny _ _ (call (Value.ref 74) _) _ _ _); k_dflt (refine' c_gcd (by k_asm) (by k_asm) (by k_asm) (by k_asm) (by k_asm) (by first | exact rfl | assumption) (by ktr_room) (by ktr_units) (by ((first | assumption | omega | exact fracF_den (by first | assumption | omega)))) ?_; k_whole; (((intro t9 h9 tk9 p9 F9 N9; (try dsimp only); (try k_sweep); (try k_fold))))))) | (k_end; wrow_close) | walk1 | (dsimp only; walk1) | (leave1; walk_say "STEP leave1"; try dsimp only) | fail "no step"))
  all_goals (((refine' end_T (by with_reducible assumption) (by k_asm) (by k_asm) (by k_mem) (by ((intro p9 h9; repeat (first | (with_reducible exact h9) | (with_reducible refine List.mem_cons_of_mem _ ?_))))) (by (first | tbn_find | exact allLt_of (by assumption) | kcu_lt)) ?_ ?_)))
  all_goals first
    | exact (degD (by with_reducible assumption)).elim
    | exact (degC (by with_reducible assumption) (by with_reducible assumption)).elim
    | exact (deg4 (by with_reducible assumption) (by with_reducible assumption) (by with_reducible assumption)).1
    | exact (deg4 (by with_reducible assumption) (by with_reducible assumption) (by with_reducible assumption)).2
    | exact (deg2 (by with_reducible assumption) (by with_reducible assumption) (by with_reducible assumption) (by with_reducible assumption)).1
    | exact (deg2 (by with_reducible assumption) (by with_reducible assumption) (by with_reducible assumption) (by with_reducible assumption)).2
    | exact (deg1 (by with_reducible assumption) (by with_reducible assumption) (by with_reducible assumption)).1
    | exact (deg1 (by with_reducible assumption) (by with_reducible assumption) (by with_reducible assumption)).2
end
end
section
section
variable {w : World} {p : Program} {loose : List Str} {mean : ExcName → Option Value} {mg mb : Str → Option Value} {dp un : Nat} {gd : Option (List Code)} {cn : Str} {cs : Scope} {a : Addr} {ccd : Value} {cl : List (Str × Addr)} {outer : List Env} {A₀ : Around} {base h₀ : Heap} {L : Addr} {m : Str → Option Value} {news : List (Addr × Obj)} {s : Shared} {Q E : Value → Shared → Prop}
theorem c_pool {A1 : Addr} {vs : List Value} {ns : List Int} (B : Below A₀ base outer h₀) (F : Fr h₀ L s.heap m) (X : (Mine.hd.heap_1 w.params).In h₀) (N : News h₀ L s.heap news) (T : Top p loose mean mg mb h₀) (hk : cs.kind = .function) (hd : dp + 2 < recursionLimit) (hu : un + 16 < cLine) (hL : h₀.IsList A1 vs.toArray) (hI : IntsAre vs ns) (hn : ns.length ≤ 63)
    (ret : RetP h₀ L m news s Q) :
    wpAny (model Challenge.rw_xm0723_01.row.prog w) (ktrTop dp un gd cn cs L a ccd cl outer) (call (.ref 282) [.ref A1]) Q E s := by
  w_on
  refine wpAny_call ?_
  k_dflt (((refine' code_def ?k1 ?k2 ?k3 ?k4 ?k5 ?kA ?kF ?kK ?k6 ?k7 ?k8 ?k9 ?kB ?_ ?c2 ?c3 ?c4 ?c5; (case kA => exact rfl); (case kF => exact rfl); (case kK => assumption); (case k1 => k_asm); (case k2 => k_asm); (case k3 => k_asm); (case k4 => k_asm); (case k5 => k_asm); (case k6 => k_is); (case k7 => k_is); (case k8 => ktr_room); (case k9 => first | exact BindsTo.of_eq rfl | exact binds_K (by k_in) rfl (by k_is) rfl rfl rfl); (case c5 => decide); (case kB => exact locs rfl); (case c2 => exact rfl); (case c3 => exact rfl); (case c4 => exact rfl); k_whole; intro g' L' h' FG' F' N' B' X' T'; (try dsimp only); (try k_fold))))
  (rename Fr h₀ _ _ _ => FG)
  replace hL := isList_keep hL FG.keep
  (repeat' (first | (k_unfold; (try dsimp only)) | (k_end; wrow_close) | walk1 | (dsimp only; walk1) | (leave1; walk_say "STEP leave1"; try dsimp only) | fail "no step"))
  all_goals (((refine' end_P (by with_reducible assumption) (by k_asm) (by k_asm) (by k_mem) (by ((intro p9 h9; repeat (first | (with_reducible exact h9) | (with_reducible refine List.mem_cons_of_mem _ ?_))))) (by (first | tbn_find | exact allLt_of (by assumption) | kcu_lt)) ?_ ?_)))
  all_goals first | exact take_3 | exact pool_0
end
end
section
local macro_rules | `(tactic| walk_at "none") => `(tactic| skip)
section
variable {w : World} {p : Program} {loose : List Str} {mean : ExcName → Option Value} {mg mb : Str → Option Value} {dp un : Nat} {gd : Option (List Code)} {cn : Str} {cs : Scope} {a : Addr} {ccd : Value} {cl : List (Str × Addr)} {outer : List Env} {A₀ : Around} {base h₀ : Heap} {L : Addr} {m : Str → Option Value} {news : List (Addr × Obj)} {s : Shared} {Q E : Value → Shared → Prop}
theorem c_small {A1 : Addr} {a0 a1 b : Int} {tb : Tok} (B : Below A₀ base outer h₀) (F : Fr h₀ L s.heap m) (X : (Mine.hd.heap_1 w.params).In h₀) (N : News h₀ L s.heap news) (T : Top p loose mean mg mb h₀) (hk : cs.kind = .function) (hd : dp + 4 < recursionLimit) (hu : un + 32 < cLine) (h1 : TupIn h₀ news A1 a0 a1) (g0 : 0 ≤ a0) (g1 : a0 ≤ 45 * a1) (g2 : 0 < a1) (g3 : 0 < b) (s1 : intBits a0 ≤ 500) (s2 : intBits a1 ≤ 500) (s3 : intBits b ≤ 150)
    (ret : RetV h₀ L m news s Q (smallF a0 a1 b)) :
    wpAny (model Challenge.rw_xm0723_01.row.prog w) (ktrTop dp un gd cn cs L a ccd cl outer) (call (.ref 168) [.ref A1, .int b tb]) Q E s := by
  obtain ⟨sc0, scb, r0, r1, rb, q0, q1, qb, cb, sb⟩ := small_facts g0 g1 g2 g3 s3
  w_on
  refine wpAny_call ?_
  k_dflt (((refine' code_def ?k1 ?k2 ?k3 ?k4 ?k5 ?kA ?kF ?kK ?k6 ?k7 ?k8 ?k9 ?kB ?_ ?c2 ?c3 ?c4 ?c5; (case kA => exact rfl); (case kF => exact rfl); (case kK => assumption); (case k1 => k_asm); (case k2 => k_asm); (case k3 => k_asm); (case k4 => k_asm); (case k5 => k_asm); (case k6 => k_is); (case k7 => k_is); (case k8 => ktr_room); (case k9 => first | exact BindsTo.of_eq rfl | exact binds_K (by k_in) rfl (by k_is) rfl rfl rfl); (case c5 => decide); (case kB => exact locs rfl); (case c2 => exact rfl); (case c3 => exact rfl); (case c4 => exact rfl); k_whole; intro g' L' h' FG' F' N' B' X' T'; (try dsimp only); (try k_fold))))
  (rename Fr h₀ _ _ _ => FG)
  replace h1 := h1.mono FG.keep (fun _ e => e)
  (repeat' (first | (k_unfold; (try dsimp only)) | ((with_reducible show wpAny _ _ (call (Value.ref _) _) _ _ _); first | (k_here; (with_reducible show wpAny _ _ (call (Value.ref 161) _) _ _ _); k_dflt (refine' c_series (by k_asm) (by k_asm) (by k_asm) (by k_asm) (by k_asm) (by first | exact rfl | assumption) (by ktr_room) (by ktr_units) (by ((first | assumption | omega | exact fracF_den (by first | assumption | omega)))) (by ((first | assumption | omega | exact fracF_den (by first | assumption | omega)))) (by ((first | assumption | omega | exact fracF_den (by first | assumption | omega)))) (by ((first | assumption | omega | exact fracF_den (by first | assumption | omega)))) (by ((first | assumption | omega | exact fracF_den (by first | assumption | omega)))) (Nat.le_trans (by bits_by_make) (by decide)) (Nat.le_trans (by bits_by_make) (by decide)) (Nat.le_trans (by bits_by_make) (by decide)) ?_; k_whole; (((unfold RetI; intro t9 h9 tk9 F9 N9; (try dsimp only); (try k_sweep); (try k_fold)))))) | (k_here; (with_reducible show wpAny _ _ (call (Value.ref 175) _) _ _ _); k_dflt (refine' c_near (by k_asm) (by k_asm) (by k_asm) (by k_asm) (by k_asm) (by first | exact rfl | assumption) (by ktr_room) (by ktr_units) (by ((first | assumption | omega | exact fracF_den (by first | assumption | omega)))) (by ((first | assumption | omega | exact fracF_den (by first | assumption | omega)))) (Nat.le_trans (by bits_by_make) (by decide)) (Nat.le_trans (by bits_by_make) (by decide)) (Nat.le_trans (by bits_by_make) (by decide)) ?_; k_whole; (((unfold RetT; intro D9 t9 u9 c9 h9 tk9 F9 N9 l9; (try simp only [AllLt, and_true] at l9); (try dsimp only); (try k_sweep); (try k_fold)))))) | (k_here; (with_reducible show wpAny _ _ (call (Value.ref 154) _) _ _ _); k_dflt (refine' c_rad (by k_asm) (by k_asm) (by k_asm) (by k_asm) (by k_asm) (by first | exact rfl | assumption) (by ktr_room) (by ktr_units) (by ((first | exact TupIn.of_news (by k_mem) | exact TupIn.of_K (by k_asm) (by k_is) | exact TupIn.mono (by assumption) (fun _ _ e => e) (by ((intro p9 h9; repeat (first | (with_reducible exact h9) | (with_reducible refine List.mem_cons_of_mem _ ?_))))) | exact TupIn.mono (by assumption) (Fr.keep (by assumption)) (by ((intro p9 h9; repeat (first | (with_reducible exact h9) | (with_reducible refine List.mem_cons_of_mem _ ?_)))))))) (by ((first | assumption | omega | exact fracF_den (by first | assumption | omega)))) (Nat.le_trans (by bits_by_make) (by decide)) (Nat.le_trans (by bits_by_make) (by decide)) (Nat.le_trans (by bits_by_make) (by decide)) ?_; k_whole; (((unfold RetI; intro t9 h9 tk9 F9 N9; (try dsimp only); (try k_sweep); (try k_fold)))))) | (k_here; (with_reducible show wpAny _ _ (call (Value.ref 147) _) _ _ _); k_dflt (refine' c_want (by k_asm) (by k_asm) (by k_asm) (by k_asm) (by k_asm) (by first | exact rfl | assumption) (by ktr_room) (by ktr_units) (by ((first | assumption | omega | exact fracF_den (by first | assumption | omega)))) (by ((first | assumption | omega | exact fracF_den (by first | assumption | omega)))) ?_; k_whole; (((unfold RetN; intro h9 tk9 F9 N9; (try dsimp only); (try k_sweep); (try k_fold)))))) | (k_here; (with_reducible show wpAny _ _ (call (Value.ref 124) _) _ _ _); k_dflt (refine' c_compare (by k_asm) (by k_asm) (by k_asm) (by k_asm) (by k_asm) (by first | exact rfl | assumption) (by ktr_room) (by ktr_units) (by ((first | exact TupIn.of_news (by k_mem) | exact TupIn.of_K (by k_asm) (by k_is) | exact TupIn.mono (by assumption) (fun _ _ e => e) (by ((intro p9 h9; repeat (first | (with_reducible exact h9) | (with_reducible refine List.mem_cons_of_mem _ ?_))))) | exact TupIn.mono (by assumption) (Fr.keep (by assumption)) (by ((intro p9 h9; repeat (first | (with_reducible exact h9) | (with_reducible refine List.mem_cons_of_mem _ ?_)))))))) (by ((first | exact TupIn.of_news (by k_mem) | exact TupIn.of_K (by k_asm) (by k_is) | exact TupIn.mono (by assumption) (fun _ _ e => e) (by ((intro p9 h9; repeat (first | (with_reducible exact h9) | (with_reducible refine List.mem_cons_of_mem _ ?_))))) | exact TupIn.mono (by assumption) (Fr.keep (by assumption)) (by ((intro p9 h9; repeat (first | (with_reducible exact h9) | (with_reducible refine List.mem_cons_of_mem _ ?_)))))))) (Nat.le_trans (by bits_by_make) (by decide)) (Nat.le_trans (by bits_by_make) (by decide)) (Nat.le_trans (by bits_by_make) (by decide)) (Nat.le_trans (by bits_by_make) (by decide)) ?_; k_whole; (((unfold RetI; intro t9 h9 tk9 F9 N9; (try dsimp only); (try k_sweep); (try k_fold)))))) | (k_here; (with_reducible show wpAny _ _ (call (Value.ref 138) _) _ _ _); k_dflt (refine' c_rounded (by k_asm) (by k_asm) (by k_asm) (by k_asm) (by k_asm) (by first | exact rfl | assumption) (by ktr_room) (by ktr_units) (by ((first | exact TupIn.of_news (by k_mem) | exact TupIn.of_K (by k_asm) (by k_is) | exact TupIn.mono (by assumption) (fun _ _ e => e) (by ((intro p9 h9; repeat (first | (with_reducible exact h9) | (with_reducible refine List.mem_cons_of_mem _ ?_))))) | exact TupIn.mono (by assumption) (Fr.keep (by assumption)) (by ((intro p9 h9; repeat (first | (with_reducible exact h9) | (with_reducible refine List.mem_cons_of_mem _ ?_)))))))) (by ((first | assumption | omega | exact fracF_den (by first | assumption | omega)))) (Nat.le_trans (by bits_by_make) (by decide)) (Nat.le_trans (by bits_by_make) (by decide)) ?_; k_whole; (((unfold RetI; intro t9 h9 tk9 F9 N9; (try dsimp only); (try k_sweep); (try k_fold)))))) | (k_here; (with_reducible show wpAny _ _ (call (Value.ref 131) _) _ _ _); k_dflt (refine' c_floor (by k_asm) (by k_asm) (by k_asm) (by k_asm) (by k_asm) (by first | exact rfl | assumption) (by ktr_room) (by ktr_units) (by ((first | exact TupIn.of_news (by k_mem) | exact TupIn.of_K (by k_asm) (by k_is) | exact TupIn.mono (by assumption) (fun _ _ e => e) (by ((intro p9 h9; repeat (first | (with_reducible exact h9) | (with_reducible refine List.mem_cons_of_mem _ ?_))))) | exact TupIn.mono (by assumption) (Fr.keep (by assumption)) (by ((intro p9 h9; repeat (first | (with_reducible exact h9) | (with_reducible refine List.mem_cons_of_mem _ ?_)))))))) (by ((first | assumption | omega | exact fracF_den (by first | assumption | omega)))) (Nat.le_trans (by bits_by_make) (by decide)) ?_; k_whole; (((unfold RetI; intro t9 h9 tk9 F9 N9; (try dsimp only); (try k_sweep); (try k_fold)))))) | (k_here; (with_reducible show wpAny _ _ (call (Value.ref 117) _) _ _ _); k_dflt (refine' c_sign (by k_asm) (by k_asm) (by k_asm) (by k_asm) (by k_asm) (by first | exact rfl | assumption) (by ktr_room) (by ktr_units) (by ((first | exact TupIn.of_news (by k_mem) | exact TupIn.of_K (by k_asm) (by k_is) | exact TupIn.mono (by assumption) (fun _ _ e => e) (by ((intro p9 h9; repeat (first | (with_reducible exact h9) | (with_reducible refine List.mem_cons_of_mem _ ?_))))) | exact TupIn.mono (by assumption) (Fr.keep (by assumption)) (by ((intro p9 h9; repeat (first | (with_reducible exact h9) | (with_reducible refine List.mem_cons_of_mem _ ?_)))))))) ?_; k_whole; (((unfold RetI; intro t9 h9 tk9 F9 N9; (try dsimp only); (try k_sweep); (try k_fold)))))) | (k_here; (with_reducible show wpAny _ _ (call (Value.ref 110) _) _ _ _); k_dflt (refine' c_negated (by k_asm) (by k_asm) (by k_asm) (by k_asm) (by k_asm) (by first | exact rfl | assumption) (by ktr_room) (by ktr_units) (by ((first | exact TupIn.of_news (by k_mem) | exact TupIn.of_K (by k_asm) (by k_is) | exact TupIn.mono (by assumption) (fun _ _ e => e) (by ((intro p9 h9; repeat (first | (with_reducible exact h9) | (with_reducible refine List.mem_cons_of_mem _ ?_))))) | exact TupIn.mono (by assumption) (Fr.keep (by assumption)) (by ((intro p9 h9; repeat (first | (with_reducible exact h9) | (with_reducible refine List.mem_cons_of_mem _ ?_)))))))) ?_; k_whole; (((unfold RetT; intro D9 t9 u9 c9 h9 tk9 F9 N9 l9; (try simp only [AllLt, and_true] at l9); (try dsimp only); (try k_sweep); (try k_fold)))))) | (k_here; (with_reducible show wpAny _ _ (call (Value.ref 103) _) _ _ _); k_dflt (refine' c_divided (by k_asm) (by k_asm) (by k_asm) (by k_asm) (by k_asm) (by first | exact rfl | assumption) (by ktr_room) (by ktr_units) (by ((first | exact TupIn.of_news (by k_mem) | exact TupIn.of_K (by k_asm) (by k_is) | exact TupIn.mono (by assumption) (fun _ _ e => e) (by ((intro p9 h9; repeat (first | (with_reducible exact h9) | (with_reducible refine List.mem_cons_of_mem _ ?_))))) | exact TupIn.mono (by assumption) (Fr.keep (by assumption)) (by ((intro p9 h9; repeat (first | (with_reducible exact h9) | (with_reducible refine List.mem_cons_of_mem _ ?_)))))))) (by ((first | exact TupIn.of_news (by k_mem) | exact TupIn.of_K (by k_asm) (by k_is) | exact TupIn.mono (by assumption) (fun _ _ e => e) (by ((intro p9 h9; repeat (first | (with_reducible exact h9) | (with_reducible refine List.mem_cons_of_mem _ ?_))))) | exact TupIn.mono (by assumption) (Fr.keep (by assumption)) (by ((intro p9 h9; repeat (first | (with_reducible exact h9) | (with_reducible refine List.mem_cons_of_mem _ ?_)))))))) (by ((first | assumption | omega | exact fracF_den (by first | assumption | omega)))) (by ((first | assumption | omega | exact fracF_den (by first | assumption | omega)))) (Nat.le_trans (by bits_by_make) (by decide)) (Nat.le_trans (by bits_by_make) (by decide)) (Nat.le_trans (by bits_by_make) (by decide)) (Nat.le_trans (by bits_by_make) (by decide)) ?_; k_whole; (((unfold RetT; intro D9 t9 u9 c9 h9 tk9 F9 N9 l9; (try simp only [AllLt, and_true] at l9); (try dsimp only); (try k_sweep); (try k_fold)))))) | (k_here; (with_reducible show wpAny _ _ (call (Value.ref 96) _) _ _ _); k_dflt (refine' c_times (by k_asm) (by k_asm) (by k_asm) (by k_asm) (by k_asm) (by first | exact rfl | assumption) (by ktr_room) (by ktr_units) (by ((first | exact TupIn.of_news (by k_mem) | exact TupIn.of_K (by k_asm) (by k_is) | exact TupIn.mono (by assumption) (fun _ _ e => e) (by ((intro p9 h9; repeat (first | (with_reducible exact h9) | (with_reducible refine List.mem_cons_of_mem _ ?_))))) | exact TupIn.mono (by assumption) (Fr.keep (by assumption)) (by ((intro p9 h9; repeat (first | (with_reducible exact h9) | (with_reducible refine List.mem_cons_of_mem _ ?_)))))))) (by ((first | exact TupIn.of_news (by k_mem) | exact TupIn.of_K (by k_asm) (by k_is) | exact TupIn.mono (by assumption) (fun _ _ e => e) (by ((intro p9 h9; repeat (first | (with_reducible exact h9) | (with_reducible refine List.mem_cons_of_mem _ ?_))))) | exact TupIn.mono (by assumption) (Fr.keep (by assumption)) (by ((intro p9 h9; repeat (first | (with_reducible exact h9) | (with_reducible refine List.mem_cons_of_mem _ ?_)))))))) (by ((first | assumption | omega | exact fracF_den (by first | assumption | omega)))) (by ((first | assumption | omega | exact fracF_den (by first | assumption | omega)))) (Nat.le_trans (by bits_by_make) (by decide)) (Nat.le_trans (by bits_by_make) (by decide)) (Nat.le_trans (by bits_by_make) (by decide)) (Nat.le_trans (by bits_by_make) (by decide)) ?_; k_whole; (((unfold RetT; intro D9 t9 u9 c9 h9 tk9 F9 N9 l9; (try simp only [AllLt, and_true] at l9); (try dsimp only); (try k_sweep); (try k_fold)))))) | (k_here; (with_reducible show wpAny _ _ (call (Value.ref 89) _) _ _ _); k_dflt (refine' c_minus (by k_asm) (by k_asm) (by k_asm) (by k_asm) (by k_asm) (by first | exact rfl | assumption) (by ktr_room) (by ktr_units) (by ((first | exact TupIn.of_news (by k_mem) | exact TupIn.of_K (by k_asm) (by k_is) | exact TupIn.mono (by assumption) (fun _ _ e => e) (by ((intro p9 h9; repeat (first | (with_reducible exact h9) | (with_reducible refine List.mem_cons_of_mem _ ?_))))) | exact TupIn.mono (by assumption) (Fr.keep (by assumption)) (by ((intro p9 h9; repeat (first | (with_reducible exact h9) | (with_reducible refine List.mem_cons_of_mem _ ?_)))))))) (by ((first | exact TupIn.of_news (by k_mem) | exact TupIn.of_K (by k_asm) (by k_is) | exact TupIn.mono (by assumption) (fun _ _ e => e) (by ((intro p9 h9; repeat (first | (with_reducible exact h9) | (with_reducible refine List.mem_cons_of_mem _ ?_))))) | exact TupIn.mono (by assumption) (Fr.keep (by assumption)) (by ((intro p9 h9; repeat (first | (with_reducible exact h9) | (with_reducible refine List.mem_cons_of_mem _ ?_)))))))) (by ((first | assumption | omega | exact fracF_den (by first | assumption | omega)))) (by ((first | assumption | omega | exact fracF_den (by first | assumption | omega)))) (Nat.le_trans (by bits_by_make) (by decide)) (Nat.le_trans (by bits_by_make) (by decide)) (Nat.le_trans (by bits_by_make) (by decide)) (Nat.le_trans (by bits_by_make) (by decide)) ?_; k_whole; (((unfold RetT; intro D9 t9 u9 c9 h9 tk9 F9 N9 l9; (try simp only [AllLt, and_true] at l9); (try dsimp only); (try k_sweep); (try k_fold)))))) | (k_here; (with_reducible show wpAny _ _ (call (Value.ref 82) _) _ _ _); k_dflt (refine' c_frac (by k_asm) (by k_asm) (by k_asm) (by k_asm) (by k_asm) (by first | exact rfl | assumption) (by ktr_room) (by ktr_units) (by ((first | assumption | omega | exact fracF_den (by first | assumption | omega)))) (Nat.le_trans (by bits_by_make) (by decide)) ?_; k_whole; (((unfold RetT; intro D9 t9 u9 c9 h9 tk9 F9 N9 l9; (try simp only [AllLt, and_true] at l9); (try dsimp only); (try k_sweep); (try k_fold)))))) | (k_here; (with_reducible show wpAny _ _ (call (Value.ref 74) _) _ _ _); k_dflt (refine' c_gcd (by k_asm) (by k_asm) (by k_asm) (by k_asm) (by k_asm) (by first | exact rfl | assumption) (by ktr_room) (by ktr_units) (by ((first | assumption | omega | exact fracF_den (by first | assumption | omega)))) ?_; k_whole; (((intro t9 h9 tk9 p9 F9 N9; (try dsimp only); (try k_sweep); (try k_fold))))))) | (k_end; wrow_close) | walk1 | (dsimp only; walk1) | (leave1; walk_say "STEP leave1"; try dsimp only) | fail "no step"))
  all_goals (((refine' end_V (by with_reducible assumption) (by k_asm) (by k_asm) (by k_mem) (by k_mem) (by k_mem) (by ((intro p9 h9; repeat (first | (with_reducible exact h9) | (with_reducible refine List.mem_cons_of_mem _ ?_))))) (by (first | tbn_find | exact allLt_of (by assumption) | kcu_lt)) ?_ ?_ ?_ ?_ ?_ ?_ ?_)))
  · rfl
  · exact near_den (by omega)
  · exact near_den (by omega)
  · exact Nat.le_trans (bits_near1 cb s3 (by omega)) (by decide)
  · exact Nat.le_trans (bits_near2 s3) (by decide)
  · exact Nat.le_trans (bits_near1 sb s3 (by omega)) (by decide)
  · exact Nat.le_trans (bits_near2 s3) (by decide)
end
end
section
section
variable {w : World} {p : Program} {loose : List Str} {mean : ExcName → Option Value} {mg mb : Str → Option Value} {dp un : Nat} {gd : Option (List Code)} {cn : Str} {cs : Scope} {a : Addr} {ccd : Value} {cl : List (Str × Addr)} {outer : List Env} {A₀ : Around} {base h₀ : Heap} {L : Addr} {m : Str → Option Value} {news : List (Addr × Obj)} {s : Shared} {Q E : Value → Shared → Prop}
local macro_rules | `(tactic| walk_at "compareOp Gt int int") => `(tactic| (k_here; (with_reducible rename nearP _ _ _ _ _ => np9); (first
  | ((with_reducible rename ((_ : Int) < 0) => hq9); (with_reducible refine gt_no (near_neg np9 hq9) ?_))
  | ((with_reducible rename (¬ (_ : Int) < 0) => hq9); (with_reducible refine gt_no (near_pos np9 hq9) ?_)))))
local macro_rules | `(tactic| walk_at "execs nil") => `(tactic| (k_here; dsimp only; k_dflt (refine wpAny_execs_nil ?_)))
local macro_rules | `(tactic| walk_at "compareOp Eq ref ref") => `(tactic| (k_here; k_dflt (refine' eq_tups ?ra ?rb ?hu ?_; (case ra => exact TupIn.reads (by with_reducible assumption) (by k_asm) (by k_asm) (by walk_at "MySub")); (case rb => (refine' tup_reads_at ?n1 ?n2; (case n1 => k_asm); (case n2 => k_mem))); (case hu => ktr_units); k_whole)))
theorem c_lnear {A1 : Addr} {t0 t1 q : Int} {tq : Tok} (B : Below A₀ base outer h₀) (F : Fr h₀ L s.heap m) (X : (Mine.hd.heap_1 w.params).In h₀) (N : News h₀ L s.heap news) (T : Top p loose mean mg mb h₀) (hk : cs.kind = .function) (hd : dp + 12 < recursionLimit) (hu : un + 96 < cLine) (h1 : TupIn h₀ news A1 t0 t1) (g0 : 0 < t1) (g1 : -348 ≤ q) (g2 : q ≤ 348) (g3 : (65536 : Int).fmod t1 = 0) (g4 : nearP t0 t1 q (lawTanF (absF q)).1 (lawTanF (absF q)).2) (s1 : intBits t0 ≤ 500) (s2 : intBits t1 ≤ 500) (g6 : absF q = 0 ∨ absF q = 180 → t0 = q.fdiv 180 ∧ t1 = 1)
    (ret : RetB h₀ L m news s Q) :
    wpAny (model Challenge.rw_xm0723_01.row.prog w) (ktrTop dp un gd cn cs L a ccd cl outer) (call (.ref 315) [.ref A1, .int q tq]) Q E s := by
  have n1 : 0 ≤ (if q < 0 then -q else q) := by split <;> omega
  have n2 : (if q < 0 then -q else q) ≤ 360 := by split <;> omega
  have g5 : ∀ x y : Int, (x, y) = lawTanF (if q < 0 then -q else q) → nearP t0 t1 q x y := fun x y e => by rw [← e] at g4; exact g4
  clear g4
  w_on
  refine wpAny_call ?_
  k_dflt (((refine' code_def ?k1 ?k2 ?k3 ?k4 ?k5 ?kA ?kF ?kK ?k6 ?k7 ?k8 ?k9 ?kB ?_ ?c2 ?c3 ?c4 ?c5; (case kA => exact rfl); (case kF => exact rfl); (case kK => assumption); (case k1 => k_asm); (case k2 => k_asm); (case k3 => k_asm); (case k4 => k_asm); (case k5 => k_asm); (case k6 => k_is); (case k7 => k_is); (case k8 => ktr_room); (case k9 => first | exact BindsTo.of_eq rfl | exact binds_K (by k_in) rfl (by k_is) rfl rfl rfl); (case c5 => decide); (case kB => exact locs rfl); (case c2 => exact rfl); (case c3 => exact rfl); (case c4 => exact rfl); k_whole; intro g' L' h' FG' F' N' B' X' T'; (try dsimp only); (try k_fold))))
  (rename Fr h₀ _ _ _ => FG)
  replace h1 := h1.mono FG.keep (fun _ e => e)
  (repeat' (first | (k_unfold; (try dsimp only)) | ((with_reducible show wpAny _ _ (call (Value.ref _) _) _ _ _); first | (k_here; (with_reducible show wpAny _ _ (call (Value.ref 308) _) _ _ _); ((k_here; (with_reducible show wpAny _ _ (call (Value.ref 308) _) _ _ _); k_dflt (refine' c_lawtanV (by k_asm) (by k_asm) (by k_asm) (by k_asm) (by k_asm) (by first | exact rfl | assumption) (by ktr_room) (by ktr_units) (by ((first | assumption | omega | exact fracF_den (by first | assumption | omega)))) (by ((first | assumption | omega | exact fracF_den (by first | assumption | omega)))) ?_; k_whole; (((unfold RetTV; intro x9 y9 D9 t9 u9 c9 h9 tk9 e9 b8 b9 F9 N9 l9; (try simp only [AllLt, and_true] at l9); (try dsimp only); (try k_sweep); (try k_fold))))))); (with_reducible rename (∀ x y : Int, (x, y) = lawTanF _ → nearP _ _ _ x y) => G9); (with_reducible rename ((_, _) = lawTanF _) => E9); (have n9 := G9 _ _ E9); clear G9 E9) | (k_here; (with_reducible show wpAny _ _ (call (Value.ref 138) _) _ _ _); k_dflt (refine' c_rounded (by k_asm) (by k_asm) (by k_asm) (by k_asm) (by k_asm) (by first | exact rfl | assumption) (by ktr_room) (by ktr_units) (by ((first | exact TupIn.of_news (by k_mem) | exact TupIn.of_K (by k_asm) (by k_is) | exact TupIn.mono (by assumption) (fun _ _ e => e) (by ((intro p9 h9; repeat (first | (with_reducible exact h9) | (with_reducible refine List.mem_cons_of_mem _ ?_))))) | exact TupIn.mono (by assumption) (Fr.keep (by assumption)) (by ((intro p9 h9; repeat (first | (with_reducible exact h9) | (with_reducible refine List.mem_cons_of_mem _ ?_)))))))) (by ((first | assumption | omega | exact fracF_den (by first | assumption | omega)))) (Nat.le_trans (by bits_by_make) (by decide)) (Nat.le_trans (by bits_by_make) (by decide)) ?_; k_whole; (((unfold RetI; intro t9 h9 tk9 F9 N9; (try dsimp only); (try k_sweep); (try k_fold)))))) | (k_here; (with_reducible show wpAny _ _ (call (Value.ref 131) _) _ _ _); k_dflt (refine' c_floor (by k_asm) (by k_asm) (by k_asm) (by k_asm) (by k_asm) (by first | exact rfl | assumption) (by ktr_room) (by ktr_units) (by ((first | exact TupIn.of_news (by k_mem) | exact TupIn.of_K (by k_asm) (by k_is) | exact TupIn.mono (by assumption) (fun _ _ e => e) (by ((intro p9 h9; repeat (first | (with_reducible exact h9) | (with_reducible refine List.mem_cons_of_mem _ ?_))))) | exact TupIn.mono (by assumption) (Fr.keep (by assumption)) (by ((intro p9 h9; repeat (first | (with_reducible exact h9) | (with_reducible refine List.mem_cons_of_mem _ ?_)))))))) (by ((first | assumption | omega | exact fracF_den (by first | assumption | omega)))) (Nat.le_trans (by bits_by_make) (by decide)) ?_; k_whole; (((unfold RetI; intro t9 h9 tk9 F9 N9; (try dsimp only); (try k_sweep); (try k_fold)))))) | (k_here; (with_reducible show wpAny _ _ (call (Value.ref 117) _) _ _ _); k_dflt (refine' c_sign (by k_asm) (by k_asm) (by k_asm) (by k_asm) (by k_asm) (by first | exact rfl | assumption) (by ktr_room) (by ktr_units) (by ((first | exact TupIn.of_news (by k_mem) | exact TupIn.of_K (by k_asm) (by k_is) | exact TupIn.mono (by assumption) (fun _ _ e => e) (by ((intro p9 h9; repeat (first | (with_reducible exact h9) | (with_reducible refine List.mem_cons_of_mem _ ?_))))) | exact TupIn.mono (by assumption) (Fr.keep (by assumption)) (by ((intro p9 h9; repeat (first | (with_reducible exact h9) | (with_reducible refine List.mem_cons_of_mem _ ?_)))))))) ?_; k_whole; (((unfold RetI; intro t9 h9 tk9 F9 N9; (try dsimp only); (try k_sweep); (try k_fold)))))) | (k_here; (with_reducible show wpAny _ _ (call (Value.ref 110) _) _ _ _); k_dflt (refine' c_negated (by k_asm) (by k_asm) (by k_asm) (by k_asm) (by k_asm) (by first | exact rfl | assumption) (by ktr_room) (by ktr_units) (by ((first | exact TupIn.of_news (by k_mem) | exact TupIn.of_K (by k_asm) (by k_is) | exact TupIn.mono (by assumption) (fun _ _ e => e) (by ((intro p9 h9; repeat (first | (with_reducible exact h9) | (with_reducible refine List.mem_cons_of_mem _ ?_))))) | exact TupIn.mono (by assumption) (Fr.keep (by assumption)) (by ((intro p9 h9; repeat (first | (with_reducible exact h9) | (with_reducible refine List.mem_cons_of_mem _ ?_)))))))) ?_; k_whole; (((unfold RetT; intro D9 t9 u9 c9 h9 tk9 F9 N9 l9; (try simp only [AllLt, and_true] at l9); (try dsimp only); (try k_sweep); (try k_fold)))))) | (k_here; (with_reducible show wpAny _ _ (call (Value.ref 103) _) _ _ _); k_dflt (refine' c_divided (by k_asm) (by k_asm) (by k_asm) (by k_asm) (by k_asm) (by first | exact rfl | assumption) (by ktr_room) (by ktr_units) (by ((first | exact TupIn.of_news (by k_mem) | exact TupIn.of_K (by k_asm) (by k_is) | exact TupIn.mono (by assumption) (fun _ _ e => e) (by ((intro p9 h9; repeat (first | (with_reducible exact h9) | (with_reducible refine List.mem_cons_of_mem _ ?_))))) | exact TupIn.mono (by assumption) (Fr.keep (by assumption)) (by ((intro p9 h9; repeat (first | (with_reducible exact h9) | (with_reducible refine List.mem_cons_of_mem _ ?_)))))))) (by ((first | exact TupIn.of_news (by k_mem) | exact TupIn.of_K (by k_asm) (by k_is) | exact TupIn.mono (by assumption) (fun _ _ e => e) (by ((intro p9 h9; repeat (first | (with_reducible exact h9) | (with_reducible refine List.mem_cons_of_mem _ ?_))))) | exact TupIn.mono (by assumption) (Fr.keep (by assumption)) (by ((intro p9 h9; repeat (first | (with_reducible exact h9) | (with_reducible refine List.mem_cons_of_mem _ ?_)))))))) (by ((first | assumption | omega | exact fracF_den (by first | assumption | omega)))) (by ((first | assumption | omega | exact fracF_den (by first | assumption | omega)))) (Nat.le_trans (by bits_by_make) (by decide)) (Nat.le_trans (by bits_by_make) (by decide)) (Nat.le_trans (by bits_by_make) (by decide)) (Nat.le_trans (by bits_by_make) (by decide)) ?_; k_whole; (((unfold RetT; intro D9 t9 u9 c9 h9 tk9 F9 N9 l9; (try simp only [AllLt, and_true] at l9); (try dsimp only); (try k_sweep); (try k_fold)))))) | (k_here; (with_reducible show wpAny _ _ (call (Value.ref 96) _) _ _ _); k_dflt (refine' c_times (by k_asm) (by k_asm) (by k_asm) (by k_asm) (by k_asm) (by first | exact rfl | assumption) (by ktr_room) (by ktr_units) (by ((first | exact TupIn.of_news (by k_mem) | exact TupIn.of_K (by k_asm) (by k_is) | exact TupIn.mono (by assumption) (fun _ _ e => e) (by ((intro p9 h9; repeat (first | (with_reducible exact h9) | (with_reducible refine List.mem_cons_of_mem _ ?_))))) | exact TupIn.mono (by assumption) (Fr.keep (by assumption)) (by ((intro p9 h9; repeat (first | (with_reducible exact h9) | (with_reducible refine List.mem_cons_of_mem _ ?_)))))))) (by ((first | exact TupIn.of_news (by k_mem) | exact TupIn.of_K (by k_asm) (by k_is) | exact TupIn.mono (by assumption) (fun _ _ e => e) (by ((intro p9 h9; repeat (first | (with_reducible exact h9) | (with_reducible refine List.mem_cons_of_mem _ ?_))))) | exact TupIn.mono (by assumption) (Fr.keep (by assumption)) (by ((intro p9 h9; repeat (first | (with_reducible exact h9) | (with_reducible refine List.mem_cons_of_mem _ ?_)))))))) (by ((first | assumption | omega | exact fracF_den (by first | assumption | omega)))) (by ((first | assumption | omega | exact fracF_den (by first | assumption | omega)))) (Nat.le_trans (by bits_by_make) (by decide)) (Nat.le_trans (by bits_by_make) (by decide)) (Nat.le_trans (by bits_by_make) (by decide)) (Nat.le_trans (by bits_by_make) (by decide)) ?_; k_whole; (((unfold RetT; intro D9 t9 u9 c9 h9 tk9 F9 N9 l9; (try simp only [AllLt, and_true] at l9); (try dsimp only); (try k_sweep); (try k_fold)))))) | (k_here; (with_reducible show wpAny _ _ (call (Value.ref 89) _) _ _ _); k_dflt (refine' c_minus (by k_asm) (by k_asm) (by k_asm) (by k_asm) (by k_asm) (by first | exact rfl | assumption) (by ktr_room) (by ktr_units) (by ((first | exact TupIn.of_news (by k_mem) | exact TupIn.of_K (by k_asm) (by k_is) | exact TupIn.mono (by assumption) (fun _ _ e => e) (by ((intro p9 h9; repeat (first | (with_reducible exact h9) | (with_reducible refine List.mem_cons_of_mem _ ?_))))) | exact TupIn.mono (by assumption) (Fr.keep (by assumption)) (by ((intro p9 h9; repeat (first | (with_reducible exact h9) | (with_reducible refine List.mem_cons_of_mem _ ?_)))))))) (by ((first | exact TupIn.of_news (by k_mem) | exact TupIn.of_K (by k_asm) (by k_is) | exact TupIn.mono (by assumption) (fun _ _ e => e) (by ((intro p9 h9; repeat (first | (with_reducible exact h9) | (with_reducible refine List.mem_cons_of_mem _ ?_))))) | exact TupIn.mono (by assumption) (Fr.keep (by assumption)) (by ((intro p9 h9; repeat (first | (with_reducible exact h9) | (with_reducible refine List.mem_cons_of_mem _ ?_)))))))) (by ((first | assumption | omega | exact fracF_den (by first | assumption | omega)))) (by ((first | assumption | omega | exact fracF_den (by first | assumption | omega)))) (Nat.le_trans (by bits_by_make) (by decide)) (Nat.le_trans (by bits_by_make) (by decide)) (Nat.le_trans (by bits_by_make) (by decide)) (Nat.le_trans (by bits_by_make) (by decide)) ?_; k_whole; (((unfold RetT; intro D9 t9 u9 c9 h9 tk9 F9 N9 l9; (try simp only [AllLt, and_true] at l9); (try dsimp only); (try k_sweep); (try k_fold)))))) | (k_here; (with_reducible show wpAny _ _ (call (Value.ref 82) _) _ _ _); k_dflt (refine' c_frac (by k_asm) (by k_asm) (by k_asm) (by k_asm) (by k_asm) (by first | exact rfl | assumption) (by ktr_room) (by ktr_units) (by ((first | assumption | omega | exact fracF_den (by first | assumption | omega)))) (Nat.le_trans (by bits_by_make) (by decide)) ?_; k_whole; (((unfold RetT; intro D9 t9 u9 c9 h9 tk9 F9 N9 l9; (try simp only [AllLt, and_true] at l9); (try dsimp only); (try k_sweep); (try k_fold)))))) | (k_here; (with_reducible show wpAny _ _ (call (Value.ref 74) _) _ _ _); k_dflt (refine' c_gcd (by k_asm) (by k_asm) (by k_asm) (by k_asm) (by k_asm) (by first | exact rfl | assumption) (by ktr_room) (by ktr_units) (by ((first | assumption | omega | exact fracF_den (by first | assumption | omega)))) ?_; k_whole; (((intro t9 h9 tk9 p9 F9 N9; (try dsimp only); (try k_sweep); (try k_fold))))))) | (k_end; wrow_close) | walk1 | (dsimp only; walk1) | (leave1; walk_say "STEP leave1"; try dsimp only) | fail "no step"))
  all_goals (((refine' end_B (by with_reducible assumption) (by k_asm) (by k_asm) (by ((intro p9 h9; repeat (first | (with_reducible exact h9) | (with_reducible refine List.mem_cons_of_mem _ ?_))))) ?_)))
  all_goals first
    | exact absurd g3 (by with_reducible assumption)
    | (have e9 : ([0, 180].any fun x => x == if q < 0 then -q else q) = false := by with_reducible assumption
       simp only [e9, Bool.not_false])
    | (obtain ⟨rfl, rfl⟩ := g6 (near_in (by with_reducible assumption) rfl); simp)
end
end
section
section
variable {w : World} {p : Program} {loose : List Str} {mean : ExcName → Option Value} {mg mb : Str → Option Value} {dp un : Nat} {gd : Option (List Code)} {cn : Str} {cs : Scope} {a : Addr} {ccd : Value} {cl : List (Str × Addr)} {outer : List Env} {A₀ : Around} {base h₀ : Heap} {L : Addr} {m : Str → Option Value} {news : List (Addr × Obj)} {s : Shared} {Q E : Value → Shared → Prop}
theorem c_take {S : Addr} {x y top : Int} {t u tt : Tok} {c : Nat} {rest : List (Addr × Obj)} (B : Below A₀ base outer h₀) (F : Fr h₀ L s.heap m) (X : (Mine.hd.heap_1 w.params).In h₀) (N : News h₀ L s.heap news) (T : Top p loose mean mg mb h₀) (hk : cs.kind = .function) (hd : dp + 1 < recursionLimit) (hu : un + 8 < cLine)
    (pk : Pick (S, listOf #[.int x t, .int y u] c) news rest) (g0 : 0 ≤ x) (gt : 0 < top) (gb : intBits top ≤ 20) (s2 : intBits y ≤ 64) (off : ∀ p ∈ rest, p.1 ≠ S)
    (ret : RetK h₀ L m rest S s Q top) :
    wpAny (model Challenge.rw_xm0723_01.row.prog w) (ktrTop dp un gd cn cs L a ccd cl outer) (call (.ref 289) [.ref S, .int top tt]) Q E s := c_take0 B F X (pk.news N) T hk hd hu g0 gt gb s2 off rfl ret
local macro_rules | `(tactic| walk_at "MyPick") => `(tactic| first | with_reducible exact Pick.head | with_reducible exact Pick.tail (by walk_at "MyPick"))
theorem c_one3 {S T₀ : Addr} {x y : Int} {t u : Tok} {a1 a2 a3 : Int} {t1 t2 t3 : Tok} {c c0 : Nat} {rest : List (Addr × Obj)} (B : Below A₀ base outer h₀) (F : Fr h₀ L s.heap m) (X : (Mine.hd.heap_1 w.params).In h₀) (N : News h₀ L s.heap news) (T : Top p loose mean mg mb h₀) (hk : cs.kind = .function) (hd : dp + 2 < recursionLimit) (hu : un + 16 < cLine) (g0 : 0 ≤ x) (s2 : intBits y ≤ 64) (off : ∀ p ∈ (T₀, listOf #[.int a1 t1, .int a2 t2, .int a3 t3] c0) :: rest, p.1 ≠ S) (hnews : news = (T₀, listOf #[.int a1 t1, .int a2 t2, .int a3 t3] c0) :: (S, listOf #[.int x t, .int y u] c) :: rest)
    (ret : RetO (One3 a1 a2 a3) h₀ L m rest S s Q) :
    wpAny (model Challenge.rw_xm0723_01.row.prog w) (ktrTop dp un gd cn cs L a ccd cl outer) (call (.ref 296) [.ref S, .ref T₀]) Q E s := by
  subst hnews
  w_on
  refine wpAny_call ?_
  k_dflt (((refine' code_def ?k1 ?k2 ?k3 ?k4 ?k5 ?kA ?kF ?kK ?k6 ?k7 ?k8 ?k9 ?kB ?_ ?c2 ?c3 ?c4 ?c5; (case kA => exact rfl); (case kF => exact rfl); (case kK => assumption); (case k1 => k_asm); (case k2 => k_asm); (case k3 => k_asm); (case k4 => k_asm); (case k5 => k_asm); (case k6 => k_is); (case k7 => k_is); (case k8 => ktr_room); (case k9 => first | exact BindsTo.of_eq rfl | exact binds_K (by k_in) rfl (by k_is) rfl rfl rfl); (case c5 => decide); (case kB => exact locs rfl); (case c2 => exact rfl); (case c3 => exact rfl); (case c4 => exact rfl); k_whole; intro g' L' h' FG' F' N' B' X' T'; (try dsimp only); (try k_fold))))
  (repeat' (first | (k_unfold; (try dsimp only)) | ((with_reducible show wpAny _ _ (call (Value.ref _) _) _ _ _); first | (k_here; (with_reducible show wpAny _ _ (call (Value.ref 289) _) _ _ _); k_dflt (refine' c_take (by k_asm) (by k_asm) (by k_asm) (by k_asm) (by k_asm) (by first | exact rfl | assumption) (by ktr_room) (by ktr_units) (by walk_at "MyPick") (by with_reducible assumption) (by first | decide | omega) (by first | exact bits_lit8' (by decide +kernel) | bits_by_make) (by with_reducible assumption) (by (with_reducible assumption)) ?_; k_whole; (((unfold RetK; intro r9 x9 y9 k9 t9 u9 c9 h9 tk9 q0 q1 q2 q3 F9 N9; (try dsimp only); (try k_sweep); (try k_fold)))))) | (k_here; (with_reducible show wpAny _ _ (call (Value.ref 74) _) _ _ _); k_dflt (refine' c_gcd (by k_asm) (by k_asm) (by k_asm) (by k_asm) (by k_asm) (by first | exact rfl | assumption) (by ktr_room) (by ktr_units) (by ((first | assumption | omega | exact fracF_den (by first | assumption | omega)))) ?_; k_whole; (((intro t9 h9 tk9 p9 F9 N9; (try dsimp only); (try k_sweep); (try k_fold))))))) | (k_end; wrow_close) | walk1 | (dsimp only; walk1) | (leave1; walk_say "STEP leave1"; try dsimp only) | fail "no step"))
  all_goals (((refine' end_O (by with_reducible assumption) (by k_asm) (by k_asm) (by k_mem) (by ((intro p9 h9; repeat (first | (with_reducible exact h9) | (with_reducible refine List.mem_cons_of_mem _ ?_))))) (by with_reducible assumption) (by with_reducible assumption) ?_)))
  all_goals exact one3_of (by with_reducible assumption) (by with_reducible assumption)
theorem c_one2 {S T₀ : Addr} {x y : Int} {t u : Tok} {a1 a2 : Int} {t1 t2 : Tok} {c c0 : Nat} {rest : List (Addr × Obj)} (B : Below A₀ base outer h₀) (F : Fr h₀ L s.heap m) (X : (Mine.hd.heap_1 w.params).In h₀) (N : News h₀ L s.heap news) (T : Top p loose mean mg mb h₀) (hk : cs.kind = .function) (hd : dp + 2 < recursionLimit) (hu : un + 16 < cLine) (g0 : 0 ≤ x) (s2 : intBits y ≤ 64) (off : ∀ p ∈ (T₀, listOf #[.int a1 t1, .int a2 t2] c0) :: rest, p.1 ≠ S) (hnews : news = (T₀, listOf #[.int a1 t1, .int a2 t2] c0) :: (S, listOf #[.int x t, .int y u] c) :: rest)
    (ret : RetO (One2 a1 a2) h₀ L m rest S s Q) :
    wpAny (model Challenge.rw_xm0723_01.row.prog w) (ktrTop dp un gd cn cs L a ccd cl outer) (call (.ref 296) [.ref S, .ref T₀]) Q E s := by
  subst hnews
  w_on
  refine wpAny_call ?_
  k_dflt (((refine' code_def ?k1 ?k2 ?k3 ?k4 ?k5 ?kA ?kF ?kK ?k6 ?k7 ?k8 ?k9 ?kB ?_ ?c2 ?c3 ?c4 ?c5; (case kA => exact rfl); (case kF => exact rfl); (case kK => assumption); (case k1 => k_asm); (case k2 => k_asm); (case k3 => k_asm); (case k4 => k_asm); (case k5 => k_asm); (case k6 => k_is); (case k7 => k_is); (case k8 => ktr_room); (case k9 => first | exact BindsTo.of_eq rfl | exact binds_K (by k_in) rfl (by k_is) rfl rfl rfl); (case c5 => decide); (case kB => exact locs rfl); (case c2 => exact rfl); (case c3 => exact rfl); (case c4 => exact rfl); k_whole; intro g' L' h' FG' F' N' B' X' T'; (try dsimp only); (try k_fold))))
  (repeat' (first | (k_unfold; (try dsimp only)) | ((with_reducible show wpAny _ _ (call (Value.ref _) _) _ _ _); first | (k_here; (with_reducible show wpAny _ _ (call (Value.ref 289) _) _ _ _); k_dflt (refine' c_take (by k_asm) (by k_asm) (by k_asm) (by k_asm) (by k_asm) (by first | exact rfl | assumption) (by ktr_room) (by ktr_units) (by walk_at "MyPick") (by with_reducible assumption) (by first | decide | omega) (by first | exact bits_lit8' (by decide +kernel) | bits_by_make) (by with_reducible assumption) (by (with_reducible assumption)) ?_; k_whole; (((unfold RetK; intro r9 x9 y9 k9 t9 u9 c9 h9 tk9 q0 q1 q2 q3 F9 N9; (try dsimp only); (try k_sweep); (try k_fold)))))) | (k_here; (with_reducible show wpAny _ _ (call (Value.ref 74) _) _ _ _); k_dflt (refine' c_gcd (by k_asm) (by k_asm) (by k_asm) (by k_asm) (by k_asm) (by first | exact rfl | assumption) (by ktr_room) (by ktr_units) (by ((first | assumption | omega | exact fracF_den (by first | assumption | omega)))) ?_; k_whole; (((intro t9 h9 tk9 p9 F9 N9; (try dsimp only); (try k_sweep); (try k_fold))))))) | (k_end; wrow_close) | walk1 | (dsimp only; walk1) | (leave1; walk_say "STEP leave1"; try dsimp only) | fail "no step"))
  all_goals (((refine' end_O (by with_reducible assumption) (by k_asm) (by k_asm) (by k_mem) (by ((intro p9 h9; repeat (first | (with_reducible exact h9) | (with_reducible refine List.mem_cons_of_mem _ ?_))))) (by with_reducible assumption) (by with_reducible assumption) ?_)))
  all_goals exact one2_of (by with_reducible assumption) (by with_reducible assumption)
local macro_rules | `(tactic| walk_at "subscriptTail") => `(tactic| (k_here; (with_reducible show wpAny _ _ (subscriptTail _ _ (Value.ref _) (Value.int _ _)) _ _ _); k_dflt (refine' item_two ?a ?b ?c ?d ?_; (case a => k_asm); (case b => k_mem); (case c => with_reducible assumption); (case d => with_reducible assumption); k_whole; intro t9)))
theorem c_oneS {S T₀ : Addr} {x y : Int} {t u : Tok} {a1 a2 : Str} {t1 t2 : Tok} {c c0 : Nat} {rest : List (Addr × Obj)} (B : Below A₀ base outer h₀) (F : Fr h₀ L s.heap m) (X : (Mine.hd.heap_1 w.params).In h₀) (N : News h₀ L s.heap news) (T : Top p loose mean mg mb h₀) (hk : cs.kind = .function) (hd : dp + 2 < recursionLimit) (hu : un + 16 < cLine) (g0 : 0 ≤ x) (s2 : intBits y ≤ 64) (off : ∀ p ∈ (T₀, listOf #[.str a1 t1, .str a2 t2] c0) :: rest, p.1 ≠ S) (hnews : news = (T₀, listOf #[.str a1 t1, .str a2 t2] c0) :: (S, listOf #[.int x t, .int y u] c) :: rest)
    (ret : RetO (OneS a1 a2) h₀ L m rest S s Q) :
    wpAny (model Challenge.rw_xm0723_01.row.prog w) (ktrTop dp un gd cn cs L a ccd cl outer) (call (.ref 296) [.ref S, .ref T₀]) Q E s := by
  subst hnews
  w_on
  refine wpAny_call ?_
  k_dflt (((refine' code_def ?k1 ?k2 ?k3 ?k4 ?k5 ?kA ?kF ?kK ?k6 ?k7 ?k8 ?k9 ?kB ?_ ?c2 ?c3 ?c4 ?c5; (case kA => exact rfl); (case kF => exact rfl); (case kK => assumption); (case k1 => k_asm); (case k2 => k_asm); (case k3 => k_asm); (case k4 => k_asm); (case k5 => k_asm); (case k6 => k_is); (case k7 => k_is); (case k8 => ktr_room); (case k9 => first | exact BindsTo.of_eq rfl | exact binds_K (by k_in) rfl (by k_is) rfl rfl rfl); (case c5 => decide); (case kB => exact locs rfl); (case c2 => exact rfl); (case c3 => exact rfl); (case c4 => exact rfl); k_whole; intro g' L' h' FG' F' N' B' X' T'; (try dsimp only); (try k_fold))))
  (repeat' (first | (k_unfold; (try dsimp only)) | ((with_reducible show wpAny _ _ (call (Value.ref _) _) _ _ _); first | (k_here; (with_reducible show wpAny _ _ (call (Value.ref 289) _) _ _ _); k_dflt (refine' c_take (by k_asm) (by k_asm) (by k_asm) (by k_asm) (by k_asm) (by first | exact rfl | assumption) (by ktr_room) (by ktr_units) (by walk_at "MyPick") (by with_reducible assumption) (by first | decide | omega) (by first | exact bits_lit8' (by decide +kernel) | bits_by_make) (by with_reducible assumption) (by (with_reducible assumption)) ?_; k_whole; (((unfold RetK; intro r9 x9 y9 k9 t9 u9 c9 h9 tk9 q0 q1 q2 q3 F9 N9; (try dsimp only); (try k_sweep); (try k_fold)))))) | (k_here; (with_reducible show wpAny _ _ (call (Value.ref 74) _) _ _ _); k_dflt (refine' c_gcd (by k_asm) (by k_asm) (by k_asm) (by k_asm) (by k_asm) (by first | exact rfl | assumption) (by ktr_room) (by ktr_units) (by ((first | assumption | omega | exact fracF_den (by first | assumption | omega)))) ?_; k_whole; (((intro t9 h9 tk9 p9 F9 N9; (try dsimp only); (try k_sweep); (try k_fold))))))) | (k_end; wrow_close) | walk1 | (dsimp only; walk1) | (leave1; walk_say "STEP leave1"; try dsimp only) | fail "no step"))
  all_goals (((refine' end_O (by with_reducible assumption) (by k_asm) (by k_asm) (by k_mem) (by ((intro p9 h9; repeat (first | (with_reducible exact h9) | (with_reducible refine List.mem_cons_of_mem _ ?_))))) (by with_reducible assumption) (by with_reducible assumption) ?_)))
  all_goals exact oneS_of (by with_reducible assumption) (by with_reducible assumption)
end
end
section
section
theorem news_l2 {h₀ h : Heap} {L : Addr} {news : List (Addr × Obj)} {p q : Addr × Obj} (N : News h₀ L h news) (m1 : p ∈ news) (m2 : q ∈ news) : News h₀ L h [p, q] := fun x hx => by
  rcases List.mem_cons.mp hx with rfl | hx
  · exact N _ m1
  · rcases List.mem_cons.mp hx with rfl | hx
    · exact N _ m2
    · exact absurd hx List.not_mem_nil
theorem news_c {h₀ h : Heap} {L : Addr} {news l : List (Addr × Obj)} {p : Addr × Obj} (N : News h₀ L h news) (m1 : p ∈ news) (N2 : News h₀ L h l) : News h₀ L h (p :: l) := fun x hx => by
  rcases List.mem_cons.mp hx with rfl | hx
  · exact N _ m1
  · exact N2 _ hx
theorem off_2 {S : Addr} {p q : Addr × Obj} (h1 : p.1 ≠ S) (h2 : q.1 ≠ S) : ∀ x ∈ [p, q], x.1 ≠ S := fun x hx => by
  rcases List.mem_cons.mp hx with rfl | hx
  · exact h1
  · rcases List.mem_cons.mp hx with rfl | hx
    · exact h2
    · exact absurd hx List.not_mem_nil
theorem off_c {S : Addr} {p : Addr × Obj} {l : List (Addr × Obj)} (h1 : p.1 ≠ S) (h2 : ∀ x ∈ l, x.1 ≠ S) : ∀ x ∈ p :: l, x.1 ≠ S := fun x hx => by
  rcases List.mem_cons.mp hx with rfl | hx
  · exact h1
  · exact h2 _ hx
theorem off_1 {S : Addr} {p : Addr × Obj} (h1 : p.1 ≠ S) : ∀ x ∈ [p], x.1 ≠ S := off_c h1 fun _ h => absurd h List.not_mem_nil
variable {w : World} {p : Program} {loose : List Str} {mean : ExcName → Option Value} {mg mb : Str → Option Value} {dp un : Nat} {gd : Option (List Code)} {cn : Str} {cs : Scope} {a : Addr} {ccd : Value} {cl : List (Str × Addr)} {outer : List Env} {A₀ : Around} {base h₀ : Heap} {L : Addr} {m : Str → Option Value} {news : List (Addr × Obj)} {s : Shared} {Q E : Value → Shared → Prop}
theorem c_takeL {S A1 A2 : Addr} {x y top : Int} {t u tt : Tok} {c : Nat} {o1 o2 : Obj} (B : Below A₀ base outer h₀) (F : Fr h₀ L s.heap m) (X : (Mine.hd.heap_1 w.params).In h₀) (N : News h₀ L s.heap news) (T : Top p loose mean mg mb h₀) (hk : cs.kind = .function) (hd : dp + 1 < recursionLimit) (hu : un + 8 < cLine) (e1 : m (Str.ofString "level") = some (.ref A1)) (e2 : m (Str.ofString "one") = some (.ref A2)) (m0 : (S, listOf #[.int x t, .int y u] c) ∈ news) (m1 : (A1, o1) ∈ news) (m2 : (A2, o2) ∈ news) (n1 : A1 ≠ S) (n2 : A2 ≠ S) (g0 : 0 ≤ x) (gt : 0 < top) (gb : intBits top ≤ 20) (s2 : intBits y ≤ 64)
    (ret : RetK h₀ L m [(A1, o1), (A2, o2)] S s Q top) :
    wpAny (model Challenge.rw_xm0723_01.row.prog w) (ktrTop dp un gd cn cs L a ccd cl outer) (call (.ref 289) [.ref S, .int top tt]) Q E s := c_take B F X (news_c N m0 (news_l2 N m1 m2)) T hk hd hu .head g0 gt gb s2 (off_2 n1 n2) ret
theorem c_one3L {S T₀ A1 A2 : Addr} {x y : Int} {t u : Tok} {a1 a2 a3 : Int} {t1 t2 t3 : Tok} {c c0 : Nat} {o1 o2 : Obj} (B : Below A₀ base outer h₀) (F : Fr h₀ L s.heap m) (X : (Mine.hd.heap_1 w.params).In h₀) (N : News h₀ L s.heap news) (T : Top p loose mean mg mb h₀) (hk : cs.kind = .function) (hd : dp + 2 < recursionLimit) (hu : un + 16 < cLine) (e1 : m (Str.ofString "level") = some (.ref A1)) (e2 : m (Str.ofString "one") = some (.ref A2)) (mT : (T₀, listOf #[.int a1 t1, .int a2 t2, .int a3 t3] c0) ∈ news) (m0 : (S, listOf #[.int x t, .int y u] c) ∈ news) (m1 : (A1, o1) ∈ news) (m2 : (A2, o2) ∈ news) (nT : T₀ ≠ S) (n1 : A1 ≠ S) (n2 : A2 ≠ S) (g0 : 0 ≤ x) (s2 : intBits y ≤ 64)
    (ret : RetO (One3 a1 a2 a3) h₀ L m [(A1, o1), (A2, o2)] S s Q) :
    wpAny (model Challenge.rw_xm0723_01.row.prog w) (ktrTop dp un gd cn cs L a ccd cl outer) (call (.ref 296) [.ref S, .ref T₀]) Q E s := c_one3 B F X (news_c N mT (news_c N m0 (news_l2 N m1 m2))) T hk hd hu g0 s2 (off_c nT (off_2 n1 n2)) rfl ret
theorem c_one2L {S T₀ A1 A2 : Addr} {x y : Int} {t u : Tok} {a1 a2 : Int} {t1 t2 : Tok} {c c0 : Nat} {o1 o2 : Obj} (B : Below A₀ base outer h₀) (F : Fr h₀ L s.heap m) (X : (Mine.hd.heap_1 w.params).In h₀) (N : News h₀ L s.heap news) (T : Top p loose mean mg mb h₀) (hk : cs.kind = .function) (hd : dp + 2 < recursionLimit) (hu : un + 16 < cLine) (e1 : m (Str.ofString "level") = some (.ref A1)) (e2 : m (Str.ofString "one") = some (.ref A2)) (mT : (T₀, listOf #[.int a1 t1, .int a2 t2] c0) ∈ news) (m0 : (S, listOf #[.int x t, .int y u] c) ∈ news) (m1 : (A1, o1) ∈ news) (m2 : (A2, o2) ∈ news) (nT : T₀ ≠ S) (n1 : A1 ≠ S) (n2 : A2 ≠ S) (g0 : 0 ≤ x) (s2 : intBits y ≤ 64)
    (ret : RetO (One2 a1 a2) h₀ L m [(A1, o1), (A2, o2)] S s Q) :
    wpAny (model Challenge.rw_xm0723_01.row.prog w) (ktrTop dp un gd cn cs L a ccd cl outer) (call (.ref 296) [.ref S, .ref T₀]) Q E s := c_one2 B F X (news_c N mT (news_c N m0 (news_l2 N m1 m2))) T hk hd hu g0 s2 (off_c nT (off_2 n1 n2)) rfl ret
theorem c_oneSL {S T₀ R : Addr} {x y : Int} {t u : Tok} {a1 a2 : Str} {t1 t2 : Tok} {c c0 : Nat} {o1 : Obj} (B : Below A₀ base outer h₀) (F : Fr h₀ L s.heap m) (X : (Mine.hd.heap_1 w.params).In h₀) (N : News h₀ L s.heap news) (T : Top p loose mean mg mb h₀) (hk : cs.kind = .function) (hd : dp + 2 < recursionLimit) (hu : un + 16 < cLine) (e1 : m (Str.ofString "right") = some (.ref R)) (mT : (T₀, listOf #[.str a1 t1, .str a2 t2] c0) ∈ news) (m0 : (S, listOf #[.int x t, .int y u] c) ∈ news) (m1 : (R, o1) ∈ news) (nT : T₀ ≠ S) (n1 : R ≠ S) (g0 : 0 ≤ x) (s2 : intBits y ≤ 64)
    (ret : RetO (OneS a1 a2) h₀ L m [(R, o1)] S s Q) :
    wpAny (model Challenge.rw_xm0723_01.row.prog w) (ktrTop dp un gd cn cs L a ccd cl outer) (call (.ref 296) [.ref S, .ref T₀]) Q E s := c_oneS B F X (news_c N mT (news_l2 N m0 m1)) T hk hd hu g0 s2 (off_c nT (off_1 n1)) rfl ret
theorem c_poolL {A A1 A2 : Addr} {vs : List Value} {ns : List Int} {o1 o2 : Obj} (B : Below A₀ base outer h₀) (F : Fr h₀ L s.heap m) (X : (Mine.hd.heap_1 w.params).In h₀) (N : News h₀ L s.heap news) (T : Top p loose mean mg mb h₀) (hk : cs.kind = .function) (hd : dp + 2 < recursionLimit) (hu : un + 16 < cLine) (hL : h₀.IsList A vs.toArray) (hI : IntsAre vs ns) (hn : ns.length ≤ 63) (e1 : m (Str.ofString "level") = some (.ref A1)) (e2 : m (Str.ofString "one") = some (.ref A2)) (m1 : (A1, o1) ∈ news) (m2 : (A2, o2) ∈ news)
    (ret : ∀ (S : Addr) (x y : Int) (t u : Tok) (c : Nat) (h' : Heap) (tk' : Nat), 0 ≤ x → intBits y ≤ 64 → A1 ≠ S → A2 ≠ S → Fr h₀ L h' m → News h₀ L h' [(S, listOf #[.int x t, .int y u] c), (A1, o1), (A2, o2)] → Q (.ref S) { s with heap := h', toks := tk' }) :
    wpAny (model Challenge.rw_xm0723_01.row.prog w) (ktrTop dp un gd cn cs L a ccd cl outer) (call (.ref 282) [.ref A]) Q E s := c_pool B F X (news_l2 N m1 m2) T hk hd hu hL hI hn (fun S x y t u c h' tk' q0 q1 F' N' l => ret S x y t u c h' tk' q0 q1 (Nat.ne_of_lt l.1) (Nat.ne_of_lt l.2.1) F' N')
theorem c_lnearL {D V S A1 A2 : Addr} {t0 t1 q : Int} {tq tt uu : Tok} {cc : Nat} {o0 o1 o2 o3 : Obj} (B : Below A₀ base outer h₀) (F : Fr h₀ L s.heap m) (X : (Mine.hd.heap_1 w.params).In h₀) (N : News h₀ L s.heap news) (T : Top p loose mean mg mb h₀) (hk : cs.kind = .function) (hd : dp + 12 < recursionLimit) (hu : un + 96 < cLine) (e0 : m (Str.ofString "told") = some (.ref D)) (e3 : m (Str.ofString "source") = some (.ref S)) (e1 : m (Str.ofString "level") = some (.ref A1)) (e2 : m (Str.ofString "one") = some (.ref A2)) (mV : (V, tup2 t0 t1 tt uu cc) ∈ news) (m0 : (D, o0) ∈ news) (m3 : (S, o3) ∈ news) (m1 : (A1, o1) ∈ news) (m2 : (A2, o2) ∈ news)
    (g0 : 0 < t1) (g1 : -348 ≤ q) (g2 : q ≤ 348) (g3 : (65536 : Int).fmod t1 = 0) (g4 : nearP t0 t1 q (lawTanF (absF q)).1 (lawTanF (absF q)).2) (s1 : intBits t0 ≤ 500) (s2 : intBits t1 ≤ 500) (g6 : absF q = 0 ∨ absF q = 180 → t0 = q.fdiv 180 ∧ t1 = 1)
    (ret : RetB h₀ L m [(V, tup2 t0 t1 tt uu cc), (D, o0), (S, o3), (A1, o1), (A2, o2)] s Q) :
    wpAny (model Challenge.rw_xm0723_01.row.prog w) (ktrTop dp un gd cn cs L a ccd cl outer) (call (.ref 315) [.ref V, .int q tq]) Q E s := c_lnear B F X (news_c N mV (news_c N m0 (news_c N m3 (news_l2 N m1 m2)))) T hk hd hu (TupIn.of_news (List.Mem.head _)) g0 g1 g2 g3 g4 s1 s2 g6 ret
end
end
section
local macro_rules | `(tactic| walk_at "none") => `(tactic| skip)
section
variable {w : World} {p : Program} {loose : List Str} {mean : ExcName → Option Value} {mg mb : Str → Option Value} {dp un : Nat} {gd : Option (List Code)} {cn : Str} {cs : Scope} {a : Addr} {ccd : Value} {cl : List (Str × Addr)} {outer : List Env} {A₀ : Around} {base h₀ : Heap} {L : Addr} {m : Str → Option Value} {news : List (Addr × Obj)} {s : Shared} {Q E : Value → Shared → Prop}
theorem c_quarter {A1 : Addr} {a0 a1 b : Int} {tb : Tok} (B : Below A₀ base outer h₀) (F : Fr h₀ L s.heap m) (X : (Mine.hd.heap_1 w.params).In h₀) (N : News h₀ L s.heap news) (T : Top p loose mean mg mb h₀) (hk : cs.kind = .function) (hd : dp + 5 < recursionLimit) (hu : un + 40 < cLine) (h1 : TupIn h₀ news A1 a0 a1) (g0 : 0 ≤ a0) (g1 : a0 ≤ 90 * a1) (g2 : 0 < a1) (g3 : 0 < b) (s1 : intBits a0 ≤ 300) (s2 : intBits a1 ≤ 300) (s3 : intBits b ≤ 150)
    (ret : RetV h₀ L m news s Q (quarterF a0 a1 b)) :
    wpAny (model Challenge.rw_xm0723_01.row.prog w) (ktrTop dp un gd cn cs L a ccd cl outer) (call (.ref 182) [.ref A1, .int b tb]) Q E s := by
  obtain ⟨f1, f2, f3, f4, f5, f6⟩ := quarter_facts g0 g1 g2
  w_on
  refine wpAny_call ?_
  k_dflt (((refine' code_def ?k1 ?k2 ?k3 ?k4 ?k5 ?kA ?kF ?kK ?k6 ?k7 ?k8 ?k9 ?kB ?_ ?c2 ?c3 ?c4 ?c5; (case kA => exact rfl); (case kF => exact rfl); (case kK => assumption); (case k1 => k_asm); (case k2 => k_asm); (case k3 => k_asm); (case k4 => k_asm); (case k5 => k_asm); (case k6 => k_is); (case k7 => k_is); (case k8 => ktr_room); (case k9 => first | exact BindsTo.of_eq rfl | exact binds_K (by k_in) rfl (by k_is) rfl rfl rfl); (case c5 => decide); (case kB => exact locs rfl); (case c2 => exact rfl); (case c3 => exact rfl); (case c4 => exact rfl); k_whole; intro g' L' h' FG' F' N' B' X' T'; (try dsimp only); (try k_fold))))
  (rename Fr h₀ _ _ _ => FG)
  replace h1 := h1.mono FG.keep (fun _ e => e)
  (repeat' (first | (k_unfold; (try dsimp only)) | ((with_reducible show wpAny _ _ (call (Value.ref _) _) _ _ _); first | (k_here; (with_reducible show wpAny _ _ (call (Value.ref 168) _) _ _ _); k_dflt (refine' c_small (by k_asm) (by k_asm) (by k_asm) (by k_asm) (by k_asm) (by first | exact rfl | assumption) (by ktr_room) (by ktr_units) (by ((first | exact TupIn.of_news (by k_mem) | exact TupIn.of_K (by k_asm) (by k_is) | exact TupIn.mono (by assumption) (fun _ _ e => e) (by ((intro p9 h9; repeat (first | (with_reducible exact h9) | (with_reducible refine List.mem_cons_of_mem _ ?_))))) | exact TupIn.mono (by assumption) (Fr.keep (by assumption)) (by ((intro p9 h9; repeat (first | (with_reducible exact h9) | (with_reducible refine List.mem_cons_of_mem _ ?_)))))))) (by ((first | assumption | omega | exact fracF_den (by first | assumption | omega)))) (by ((first | assumption | omega | exact fracF_den (by first | assumption | omega)))) (by ((first | assumption | omega | exact fracF_den (by first | assumption | omega)))) (by ((first | assumption | omega | exact fracF_den (by first | assumption | omega)))) (Nat.le_trans (by bits_by_make) (by decide)) (Nat.le_trans (by bits_by_make) (by decide)) (Nat.le_trans (by bits_by_make) (by decide)) ?_; k_whole; (((unfold RetV; intro x9 y9 z9 v9 D9 C9 S9 c9 t9 u9 v9 w9 c8 c7 h9 tk9 e9 p8 p9 b6 b7 b8 b9 F9 N9 l9; (try simp only [AllLt, and_true] at l9); (try dsimp only); (try k_sweep); (try k_fold)))))) | (k_here; (with_reducible show wpAny _ _ (call (Value.ref 161) _) _ _ _); k_dflt (refine' c_series (by k_asm) (by k_asm) (by k_asm) (by k_asm) (by k_asm) (by first | exact rfl | assumption) (by ktr_room) (by ktr_units) (by ((first | assumption | omega | exact fracF_den (by first | assumption | omega)))) (by ((first | assumption | omega | exact fracF_den (by first | assumption | omega)))) (by ((first | assumption | omega | exact fracF_den (by first | assumption | omega)))) (by ((first | assumption | omega | exact fracF_den (by first | assumption | omega)))) (by ((first | assumption | omega | exact fracF_den (by first | assumption | omega)))) (Nat.le_trans (by bits_by_make) (by decide)) (Nat.le_trans (by bits_by_make) (by decide)) (Nat.le_trans (by bits_by_make) (by decide)) ?_; k_whole; (((unfold RetI; intro t9 h9 tk9 F9 N9; (try dsimp only); (try k_sweep); (try k_fold)))))) | (k_here; (with_reducible show wpAny _ _ (call (Value.ref 175) _) _ _ _); k_dflt (refine' c_near (by k_asm) (by k_asm) (by k_asm) (by k_asm) (by k_asm) (by first | exact rfl | assumption) (by ktr_room) (by ktr_units) (by ((first | assumption | omega | exact fracF_den (by first | assumption | omega)))) (by ((first | assumption | omega | exact fracF_den (by first | assumption | omega)))) (Nat.le_trans (by bits_by_make) (by decide)) (Nat.le_trans (by bits_by_make) (by decide)) (Nat.le_trans (by bits_by_make) (by decide)) ?_; k_whole; (((unfold RetT; intro D9 t9 u9 c9 h9 tk9 F9 N9 l9; (try simp only [AllLt, and_true] at l9); (try dsimp only); (try k_sweep); (try k_fold)))))) | (k_here; (with_reducible show wpAny _ _ (call (Value.ref 154) _) _ _ _); k_dflt (refine' c_rad (by k_asm) (by k_asm) (by k_asm) (by k_asm) (by k_asm) (by first | exact rfl | assumption) (by ktr_room) (by ktr_units) (by ((first | exact TupIn.of_news (by k_mem) | exact TupIn.of_K (by k_asm) (by k_is) | exact TupIn.mono (by assumption) (fun _ _ e => e) (by ((intro p9 h9; repeat (first | (with_reducible exact h9) | (with_reducible refine List.mem_cons_of_mem _ ?_))))) | exact TupIn.mono (by assumption) (Fr.keep (by assumption)) (by ((intro p9 h9; repeat (first | (with_reducible exact h9) | (with_reducible refine List.mem_cons_of_mem _ ?_)))))))) (by ((first | assumption | omega | exact fracF_den (by first | assumption | omega)))) (Nat.le_trans (by bits_by_make) (by decide)) (Nat.le_trans (by bits_by_make) (by decide)) (Nat.le_trans (by bits_by_make) (by decide)) ?_; k_whole; (((unfold RetI; intro t9 h9 tk9 F9 N9; (try dsimp only); (try k_sweep); (try k_fold)))))) | (k_here; (with_reducible show wpAny _ _ (call (Value.ref 147) _) _ _ _); k_dflt (refine' c_want (by k_asm) (by k_asm) (by k_asm) (by k_asm) (by k_asm) (by first | exact rfl | assumption) (by ktr_room) (by ktr_units) (by ((first | assumption | omega | exact fracF_den (by first | assumption | omega)))) (by ((first | assumption | omega | exact fracF_den (by first | assumption | omega)))) ?_; k_whole; (((unfold RetN; intro h9 tk9 F9 N9; (try dsimp only); (try k_sweep); (try k_fold)))))) | (k_here; (with_reducible show wpAny _ _ (call (Value.ref 124) _) _ _ _); k_dflt (refine' c_compare (by k_asm) (by k_asm) (by k_asm) (by k_asm) (by k_asm) (by first | exact rfl | assumption) (by ktr_room) (by ktr_units) (by ((first | exact TupIn.of_news (by k_mem) | exact TupIn.of_K (by k_asm) (by k_is) | exact TupIn.mono (by assumption) (fun _ _ e => e) (by ((intro p9 h9; repeat (first | (with_reducible exact h9) | (with_reducible refine List.mem_cons_of_mem _ ?_))))) | exact TupIn.mono (by assumption) (Fr.keep (by assumption)) (by ((intro p9 h9; repeat (first | (with_reducible exact h9) | (with_reducible refine List.mem_cons_of_mem _ ?_)))))))) (by ((first | exact TupIn.of_news (by k_mem) | exact TupIn.of_K (by k_asm) (by k_is) | exact TupIn.mono (by assumption) (fun _ _ e => e) (by ((intro p9 h9; repeat (first | (with_reducible exact h9) | (with_reducible refine List.mem_cons_of_mem _ ?_))))) | exact TupIn.mono (by assumption) (Fr.keep (by assumption)) (by ((intro p9 h9; repeat (first | (with_reducible exact h9) | (with_reducible refine List.mem_cons_of_mem _ ?_)))))))) (Nat.le_trans (by bits_by_make) (by decide)) (Nat.le_trans (by bits_by_make) (by decide)) (Nat.le_trans (by bits_by_make) (by decide)) (Nat.le_trans (by bits_by_make) (by decide)) ?_; k_whole; (((unfold RetI; intro t9 h9 tk9 F9 N9; (try dsimp only); (try k_sweep); (try k_fold)))))) | (k_here; (with_reducible show wpAny _ _ (call (Value.ref 138) _) _ _ _); k_dflt (refine' c_rounded (by k_asm) (by k_asm) (by k_asm) (by k_asm) (by k_asm) (by first | exact rfl | assumption) (by ktr_room) (by ktr_units) (by ((first | exact TupIn.of_news (by k_mem) | exact TupIn.of_K (by k_asm) (by k_is) | exact TupIn.mono (by assumption) (fun _ _ e => e) (by ((intro p9 h9; repeat (first | (with_reducible exact h9) | (with_reducible refine List.mem_cons_of_mem _ ?_))))) | exact TupIn.mono (by assumption) (Fr.keep (by assumption)) (by ((intro p9 h9; repeat (first | (with_reducible exact h9) | (with_reducible refine List.mem_cons_of_mem _ ?_)))))))) (by ((first | assumption | omega | exact fracF_den (by first | assumption | omega)))) (Nat.le_trans (by bits_by_make) (by decide)) (Nat.le_trans (by bits_by_make) (by decide)) ?_; k_whole; (((unfold RetI; intro t9 h9 tk9 F9 N9; (try dsimp only); (try k_sweep); (try k_fold)))))) | (k_here; (with_reducible show wpAny _ _ (call (Value.ref 131) _) _ _ _); k_dflt (refine' c_floor (by k_asm) (by k_asm) (by k_asm) (by k_asm) (by k_asm) (by first | exact rfl | assumption) (by ktr_room) (by ktr_units) (by ((first | exact TupIn.of_news (by k_mem) | exact TupIn.of_K (by k_asm) (by k_is) | exact TupIn.mono (by assumption) (fun _ _ e => e) (by ((intro p9 h9; repeat (first | (with_reducible exact h9) | (with_reducible refine List.mem_cons_of_mem _ ?_))))) | exact TupIn.mono (by assumption) (Fr.keep (by assumption)) (by ((intro p9 h9; repeat (first | (with_reducible exact h9) | (with_reducible refine List.mem_cons_of_mem _ ?_)))))))) (by ((first | assumption | omega | exact fracF_den (by first | assumption | omega)))) (Nat.le_trans (by bits_by_make) (by decide)) ?_; k_whole; (((unfold RetI; intro t9 h9 tk9 F9 N9; (try dsimp only); (try k_sweep); (try k_fold)))))) | (k_here; (with_reducible show wpAny _ _ (call (Value.ref 117) _) _ _ _); k_dflt (refine' c_sign (by k_asm) (by k_asm) (by k_asm) (by k_asm) (by k_asm) (by first | exact rfl | assumption) (by ktr_room) (by ktr_units) (by ((first | exact TupIn.of_news (by k_mem) | exact TupIn.of_K (by k_asm) (by k_is) | exact TupIn.mono (by assumption) (fun _ _ e => e) (by ((intro p9 h9; repeat (first | (with_reducible exact h9) | (with_reducible refine List.mem_cons_of_mem _ ?_))))) | exact TupIn.mono (by assumption) (Fr.keep (by assumption)) (by ((intro p9 h9; repeat (first | (with_reducible exact h9) | (with_reducible refine List.mem_cons_of_mem _ ?_)))))))) ?_; k_whole; (((unfold RetI; intro t9 h9 tk9 F9 N9; (try dsimp only); (try k_sweep); (try k_fold)))))) | (k_here; (with_reducible show wpAny _ _ (call (Value.ref 110) _) _ _ _); k_dflt (refine' c_negated (by k_asm) (by k_asm) (by k_asm) (by k_asm) (by k_asm) (by first | exact rfl | assumption) (by ktr_room) (by ktr_units) (by ((first | exact TupIn.of_news (by k_mem) | exact TupIn.of_K (by k_asm) (by k_is) | exact TupIn.mono (by assumption) (fun _ _ e => e) (by ((intro p9 h9; repeat (first | (with_reducible exact h9) | (with_reducible refine List.mem_cons_of_mem _ ?_))))) | exact TupIn.mono (by assumption) (Fr.keep (by assumption)) (by ((intro p9 h9; repeat (first | (with_reducible exact h9) | (with_reducible refine List.mem_cons_of_mem _ ?_)))))))) ?_; k_whole; (((unfold RetT; intro D9 t9 u9 c9 h9 tk9 F9 N9 l9; (try simp only [AllLt, and_true] at l9); (try dsimp only); (try k_sweep); (try k_fold)))))) | (k_here; (with_reducible show wpAny _ _ (call (Value.ref 103) _) _ _ _); k_dflt (refine' c_divided (by k_asm) (by k_asm) (by k_asm) (by k_asm) (by k_asm) (by first | exact rfl | assumption) (by ktr_room) (by ktr_units) (by ((first | exact TupIn.of_news (by k_mem) | exact TupIn.of_K (by k_asm) (by k_is) | exact TupIn.mono (by assumption) (fun _ _ e => e) (by ((intro p9 h9; repeat (first | (with_reducible exact h9) | (with_reducible refine List.mem_cons_of_mem _ ?_))))) | exact TupIn.mono (by assumption) (Fr.keep (by assumption)) (by ((intro p9 h9; repeat (first | (with_reducible exact h9) | (with_reducible refine List.mem_cons_of_mem _ ?_)))))))) (by ((first | exact TupIn.of_news (by k_mem) | exact TupIn.of_K (by k_asm) (by k_is) | exact TupIn.mono (by assumption) (fun _ _ e => e) (by ((intro p9 h9; repeat (first | (with_reducible exact h9) | (with_reducible refine List.mem_cons_of_mem _ ?_))))) | exact TupIn.mono (by assumption) (Fr.keep (by assumption)) (by ((intro p9 h9; repeat (first | (with_reducible exact h9) | (with_reducible refine List.mem_cons_of_mem _ ?_)))))))) (by ((first | assumption | omega | exact fracF_den (by first | assumption | omega)))) (by ((first | assumption | omega | exact fracF_den (by first | assumption | omega)))) (Nat.le_trans (by bits_by_make) (by decide)) (Nat.le_trans (by bits_by_make) (by decide)) (Nat.le_trans (by bits_by_make) (by decide)) (Nat.le_trans (by bits_by_make) (by decide)) ?_; k_whole; (((unfold RetT; intro D9 t9 u9 c9 h9 tk9 F9 N9 l9; (try simp only [AllLt, and_true] at l9); (try dsimp only); (try k_sweep); (try k_fold)))))) | (k_here; (with_reducible show wpAny _ _ (call (Value.ref 96) _) _ _ _); k_dflt (refine' c_times (by k_asm) (by k_asm) (by k_asm) (by k_asm) (by k_asm) (by first | exact rfl | assumption) (by ktr_room) (by ktr_units) (by ((first | exact TupIn.of_news (by k_mem) | exact TupIn.of_K (by k_asm) (by k_is) | exact TupIn.mono (by assumption) (fun _ _ e => e) (by ((intro p9 h9; repeat (first | (with_reducible exact h9) | (with_reducible refine List.mem_cons_of_mem _ ?_))))) | exact TupIn.mono (by assumption) (Fr.keep (by assumption)) (by ((intro p9 h9; repeat (first | (with_reducible exact h9) | (with_reducible refine List.mem_cons_of_mem _ ?_)))))))) (by ((first | exact TupIn.of_news (by k_mem) | exact TupIn.of_K (by k_asm) (by k_is) | exact TupIn.mono (by assumption) (fun _ _ e => e) (by ((intro p9 h9; repeat (first | (with_reducible exact h9) | (with_reducible refine List.mem_cons_of_mem _ ?_))))) | exact TupIn.mono (by assumption) (Fr.keep (by assumption)) (by ((intro p9 h9; repeat (first | (with_reducible exact h9) | (with_reducible refine List.mem_cons_of_mem _ ?_)))))))) (by ((first | assumption | omega | exact fracF_den (by first | assumption | omega)))) (by ((first | assumption | omega | exact fracF_den (by first | assumption | omega)))) (Nat.le_trans (by bits_by_make) (by decide)) (Nat.le_trans (by bits_by_make) (by decide)) (Nat.le_trans (by bits_by_make) (by decide)) (Nat.le_trans (by bits_by_make) (by decide)) ?_; k_whole; (((unfold RetT; intro D9 t9 u9 c9 h9 tk9 F9 N9 l9; (try simp only [AllLt, and_true] at l9); (try dsimp only); (try k_sweep); (try k_fold)))))) | (k_here; (with_reducible show wpAny _ _ (call (Value.ref 89) _) _ _ _); k_dflt (refine' c_minus (by k_asm) (by k_asm) (by k_asm) (by k_asm) (by k_asm) (by first | exact rfl | assumption) (by ktr_room) (by ktr_units) (by ((first | exact TupIn.of_news (by k_mem) | exact TupIn.of_K (by k_asm) (by k_is) | exact TupIn.mono (by assumption) (fun _ _ e => e) (by ((intro p9 h9; repeat (first | (with_reducible exact h9) | (with_reducible refine List.mem_cons_of_mem _ ?_))))) | exact TupIn.mono (by assumption) (Fr.keep (by assumption)) (by ((intro p9 h9; repeat (first | (with_reducible exact h9) | (with_reducible refine List.mem_cons_of_mem _ ?_)))))))) (by ((first | exact TupIn.of_news (by k_mem) | exact TupIn.of_K (by k_asm) (by k_is) | exact TupIn.mono (by assumption) (fun _ _ e => e) (by ((intro p9 h9; repeat (first | (with_reducible exact h9) | (with_reducible refine List.mem_cons_of_mem _ ?_))))) | exact TupIn.mono (by assumption) (Fr.keep (by assumption)) (by ((intro p9 h9; repeat (first | (with_reducible exact h9) | (with_reducible refine List.mem_cons_of_mem _ ?_)))))))) (by ((first | assumption | omega | exact fracF_den (by first | assumption | omega)))) (by ((first | assumption | omega | exact fracF_den (by first | assumption | omega)))) (Nat.le_trans (by bits_by_make) (by decide)) (Nat.le_trans (by bits_by_make) (by decide)) (Nat.le_trans (by bits_by_make) (by decide)) (Nat.le_trans (by bits_by_make) (by decide)) ?_; k_whole; (((unfold RetT; intro D9 t9 u9 c9 h9 tk9 F9 N9 l9; (try simp only [AllLt, and_true] at l9); (try dsimp only); (try k_sweep); (try k_fold)))))) | (k_here; (with_reducible show wpAny _ _ (call (Value.ref 82) _) _ _ _); k_dflt (refine' c_frac (by k_asm) (by k_asm) (by k_asm) (by k_asm) (by k_asm) (by first | exact rfl | assumption) (by ktr_room) (by ktr_units) (by ((first | assumption | omega | exact fracF_den (by first | assumption | omega)))) (Nat.le_trans (by bits_by_make) (by decide)) ?_; k_whole; (((unfold RetT; intro D9 t9 u9 c9 h9 tk9 F9 N9 l9; (try simp only [AllLt, and_true] at l9); (try dsimp only); (try k_sweep); (try k_fold)))))) | (k_here; (with_reducible show wpAny _ _ (call (Value.ref 74) _) _ _ _); k_dflt (refine' c_gcd (by k_asm) (by k_asm) (by k_asm) (by k_asm) (by k_asm) (by first | exact rfl | assumption) (by ktr_room) (by ktr_units) (by ((first | assumption | omega | exact fracF_den (by first | assumption | omega)))) ?_; k_whole; (((intro t9 h9 tk9 p9 F9 N9; (try dsimp only); (try k_sweep); (try k_fold))))))) | (k_end; wrow_close) | walk1 | (dsimp only; walk1) | (leave1; walk_say "STEP leave1"; try dsimp only) | fail "no step"))
  all_goals (((refine' end_V (by with_reducible assumption) (by k_asm) (by k_asm) (by k_mem) (by k_mem) (by k_mem) (by ((intro p9 h9; repeat (first | (with_reducible exact h9) | (with_reducible refine List.mem_cons_of_mem _ ?_))))) (by (first | tbn_find | exact allLt_of (by assumption) | kcu_lt)) ?_ ?_ ?_ ?_ ?_ ?_ ?_)))
  all_goals first
    | assumption
    | exact quarter_lt (by assumption) (by assumption)
    | exact quarter_eq (by assumption) (by assumption)
    | exact quarter_gt (by assumption) (by assumption) (by assumption)
end
end
section
local macro_rules | `(tactic| walk_at "none") => `(tactic| skip)
section
variable {w : World} {p : Program} {loose : List Str} {mean : ExcName → Option Value} {mg mb : Str → Option Value} {dp un : Nat} {gd : Option (List Code)} {cn : Str} {cs : Scope} {a : Addr} {ccd : Value} {cl : List (Str × Addr)} {outer : List Env} {A₀ : Around} {base h₀ : Heap} {L : Addr} {m : Str → Option Value} {news : List (Addr × Obj)} {s : Shared} {Q E : Value → Shared → Prop}
local macro_rules | `(tactic| walk_at "UnrEnd") => `(tactic| (refine' unrEnd_2 ?uF ?uN ?o1 ?o2 ?off ?_; (case uF => assumption); (case uN => assumption); (case o1 => k_ne); (case o2 => k_ne); (case off => k_all)))
theorem c_turn {A1 : Addr} {a0 a1 b : Int} {tb : Tok} (B : Below A₀ base outer h₀) (F : Fr h₀ L s.heap m) (X : (Mine.hd.heap_1 w.params).In h₀) (N : News h₀ L s.heap news) (T : Top p loose mean mg mb h₀) (hk : cs.kind = .function) (hd : dp + 6 < recursionLimit) (hu : un + 48 < cLine) (h1 : TupIn h₀ news A1 a0 a1) (g2 : 0 < a1) (g3 : 1 ≤ b) (g4 : b ≤ 10000000000000000000000000000000000000000) (s1 : intBits a0 ≤ 64) (s2 : intBits a1 ≤ 64)
    (ret : RetV h₀ L m news s Q (turnF a0 a1 b)) :
    wpAny (model Challenge.rw_xm0723_01.row.prog w) (ktrTop dp un gd cn cs L a ccd cl outer) (call (.ref 190) [.ref A1, .int b tb]) Q E s := by
  have s3 := bits_of_lid g3 g4
  have f1 := rest_bounds (x := a0) g2
  unfold restF quartF at f1
  obtain ⟨f2, f3, f4⟩ := f1
  w_on
  refine wpAny_call ?_
  k_dflt (((refine' code_def ?k1 ?k2 ?k3 ?k4 ?k5 ?kA ?kF ?kK ?k6 ?k7 ?k8 ?k9 ?kB ?_ ?c2 ?c3 ?c4 ?c5; (case kA => exact rfl); (case kF => exact rfl); (case kK => assumption); (case k1 => k_asm); (case k2 => k_asm); (case k3 => k_asm); (case k4 => k_asm); (case k5 => k_asm); (case k6 => k_is); (case k7 => k_is); (case k8 => ktr_room); (case k9 => first | exact BindsTo.of_eq rfl | exact binds_K (by k_in) rfl (by k_is) rfl rfl rfl); (case c5 => decide); (case kB => exact locs rfl); (case c2 => exact rfl); (case c3 => exact rfl); (case c4 => exact rfl); k_whole; intro g' L' h' FG' F' N' B' X' T'; (try dsimp only); (try k_fold))))
  (rename Fr h₀ _ _ _ => FG)
  replace h1 := h1.mono FG.keep (fun _ e => e)
  k_with_none
  k_with "call type:range" => k_rangeSizes
  (repeat' (first | (k_unfold; (try dsimp only)) | ((with_reducible show wpAny _ _ (call (Value.ref _) _) _ _ _); first | (k_here; (with_reducible show wpAny _ _ (call (Value.ref 182) _) _ _ _); k_dflt (refine' c_quarter (by k_asm) (by k_asm) (by k_asm) (by k_asm) (by k_asm) (by first | exact rfl | assumption) (by ktr_room) (by ktr_units) (by ((first | exact TupIn.of_news (by k_mem) | exact TupIn.of_K (by k_asm) (by k_is) | exact TupIn.mono (by assumption) (fun _ _ e => e) (by ((intro p9 h9; repeat (first | (with_reducible exact h9) | (with_reducible refine List.mem_cons_of_mem _ ?_))))) | exact TupIn.mono (by assumption) (Fr.keep (by assumption)) (by ((intro p9 h9; repeat (first | (with_reducible exact h9) | (with_reducible refine List.mem_cons_of_mem _ ?_)))))))) (by ((first | assumption | omega | exact fracF_den (by first | assumption | omega)))) (by ((first | assumption | omega | exact fracF_den (by first | assumption | omega)))) (by ((first | assumption | omega | exact fracF_den (by first | assumption | omega)))) (by ((first | assumption | omega | exact fracF_den (by first | assumption | omega)))) (Nat.le_trans (by bits_by_make) (by decide)) (Nat.le_trans (by bits_by_make) (by decide)) (Nat.le_trans (by bits_by_make) (by decide)) ?_; k_whole; (((unfold RetV; intro x9 y9 z9 v9 D9 C9 S9 c9 t9 u9 v9 w9 c8 c7 h9 tk9 e9 p8 p9 b6 b7 b8 b9 F9 N9 l9; (try simp only [AllLt, and_true] at l9); (try dsimp only); (try k_sweep); (try k_fold)))))) | (k_here; (with_reducible show wpAny _ _ (call (Value.ref 168) _) _ _ _); k_dflt (refine' c_small (by k_asm) (by k_asm) (by k_asm) (by k_asm) (by k_asm) (by first | exact rfl | assumption) (by ktr_room) (by ktr_units) (by ((first | exact TupIn.of_news (by k_mem) | exact TupIn.of_K (by k_asm) (by k_is) | exact TupIn.mono (by assumption) (fun _ _ e => e) (by ((intro p9 h9; repeat (first | (with_reducible exact h9) | (with_reducible refine List.mem_cons_of_mem _ ?_))))) | exact TupIn.mono (by assumption) (Fr.keep (by assumption)) (by ((intro p9 h9; repeat (first | (with_reducible exact h9) | (with_reducible refine List.mem_cons_of_mem _ ?_)))))))) (by ((first | assumption | omega | exact fracF_den (by first | assumption | omega)))) (by ((first | assumption | omega | exact fracF_den (by first | assumption | omega)))) (by ((first | assumption | omega | exact fracF_den (by first | assumption | omega)))) (by ((first | assumption | omega | exact fracF_den (by first | assumption | omega)))) (Nat.le_trans (by bits_by_make) (by decide)) (Nat.le_trans (by bits_by_make) (by decide)) (Nat.le_trans (by bits_by_make) (by decide)) ?_; k_whole; (((unfold RetV; intro x9 y9 z9 v9 D9 C9 S9 c9 t9 u9 v9 w9 c8 c7 h9 tk9 e9 p8 p9 b6 b7 b8 b9 F9 N9 l9; (try simp only [AllLt, and_true] at l9); (try dsimp only); (try k_sweep); (try k_fold)))))) | (k_here; (with_reducible show wpAny _ _ (call (Value.ref 161) _) _ _ _); k_dflt (refine' c_series (by k_asm) (by k_asm) (by k_asm) (by k_asm) (by k_asm) (by first | exact rfl | assumption) (by ktr_room) (by ktr_units) (by ((first | assumption | omega | exact fracF_den (by first | assumption | omega)))) (by ((first | assumption | omega | exact fracF_den (by first | assumption | omega)))) (by ((first | assumption | omega | exact fracF_den (by first | assumption | omega)))) (by ((first | assumption | omega | exact fracF_den (by first | assumption | omega)))) (by ((first | assumption | omega | exact fracF_den (by first | assumption | omega)))) (Nat.le_trans (by bits_by_make) (by decide)) (Nat.le_trans (by bits_by_make) (by decide)) (Nat.le_trans (by bits_by_make) (by decide)) ?_; k_whole; (((unfold RetI; intro t9 h9 tk9 F9 N9; (try dsimp only); (try k_sweep); (try k_fold)))))) | (k_here; (with_reducible show wpAny _ _ (call (Value.ref 175) _) _ _ _); k_dflt (refine' c_near (by k_asm) (by k_asm) (by k_asm) (by k_asm) (by k_asm) (by first | exact rfl | assumption) (by ktr_room) (by ktr_units) (by ((first | assumption | omega | exact fracF_den (by first | assumption | omega)))) (by ((first | assumption | omega | exact fracF_den (by first | assumption | omega)))) (Nat.le_trans (by bits_by_make) (by decide)) (Nat.le_trans (by bits_by_make) (by decide)) (Nat.le_trans (by bits_by_make) (by decide)) ?_; k_whole; (((unfold RetT; intro D9 t9 u9 c9 h9 tk9 F9 N9 l9; (try simp only [AllLt, and_true] at l9); (try dsimp only); (try k_sweep); (try k_fold)))))) | (k_here; (with_reducible show wpAny _ _ (call (Value.ref 154) _) _ _ _); k_dflt (refine' c_rad (by k_asm) (by k_asm) (by k_asm) (by k_asm) (by k_asm) (by first | exact rfl | assumption) (by ktr_room) (by ktr_units) (by ((first | exact TupIn.of_news (by k_mem) | exact TupIn.of_K (by k_asm) (by k_is) | exact TupIn.mono (by assumption) (fun _ _ e => e) (by ((intro p9 h9; repeat (first | (with_reducible exact h9) | (with_reducible refine List.mem_cons_of_mem _ ?_))))) | exact TupIn.mono (by assumption) (Fr.keep (by assumption)) (by ((intro p9 h9; repeat (first | (with_reducible exact h9) | (with_reducible refine List.mem_cons_of_mem _ ?_)))))))) (by ((first | assumption | omega | exact fracF_den (by first | assumption | omega)))) (Nat.le_trans (by bits_by_make) (by decide)) (Nat.le_trans (by bits_by_make) (by decide)) (Nat.le_trans (by bits_by_make) (by decide)) ?_; k_whole; (((unfold RetI; intro t9 h9 tk9 F9 N9; (try dsimp only); (try k_sweep); (try k_fold)))))) | (k_here; (with_reducible show wpAny _ _ (call (Value.ref 147) _) _ _ _); k_dflt (refine' c_want (by k_asm) (by k_asm) (by k_asm) (by k_asm) (by k_asm) (by first | exact rfl | assumption) (by ktr_room) (by ktr_units) (by ((first | assumption | omega | exact fracF_den (by first | assumption | omega)))) (by ((first | assumption | omega | exact fracF_den (by first | assumption | omega)))) ?_; k_whole; (((unfold RetN; intro h9 tk9 F9 N9; (try dsimp only); (try k_sweep); (try k_fold)))))) | (k_here; (with_reducible show wpAny _ _ (call (Value.ref 124) _) _ _ _); k_dflt (refine' c_compare (by k_asm) (by k_asm) (by k_asm) (by k_asm) (by k_asm) (by first | exact rfl | assumption) (by ktr_room) (by ktr_units) (by ((first | exact TupIn.of_news (by k_mem) | exact TupIn.of_K (by k_asm) (by k_is) | exact TupIn.mono (by assumption) (fun _ _ e => e) (by ((intro p9 h9; repeat (first | (with_reducible exact h9) | (with_reducible refine List.mem_cons_of_mem _ ?_))))) | exact TupIn.mono (by assumption) (Fr.keep (by assumption)) (by ((intro p9 h9; repeat (first | (with_reducible exact h9) | (with_reducible refine List.mem_cons_of_mem _ ?_)))))))) (by ((first | exact TupIn.of_news (by k_mem) | exact TupIn.of_K (by k_asm) (by k_is) | exact TupIn.mono (by assumption) (fun _ _ e => e) (by ((intro p9 h9; repeat (first | (with_reducible exact h9) | (with_reducible refine List.mem_cons_of_mem _ ?_))))) | exact TupIn.mono (by assumption) (Fr.keep (by assumption)) (by ((intro p9 h9; repeat (first | (with_reducible exact h9) | (with_reducible refine List.mem_cons_of_mem _ ?_)))))))) (Nat.le_trans (by bits_by_make) (by decide)) (Nat.le_trans (by bits_by_make) (by decide)) (Nat.le_trans (by bits_by_make) (by decide)) (Nat.le_trans (by bits_by_make) (by decide)) ?_; k_whole; (((unfold RetI; intro t9 h9 tk9 F9 N9; (try dsimp only); (try k_sweep); (try k_fold)))))) | (k_here; (with_reducible show wpAny _ _ (call (Value.ref 138) _) _ _ _); k_dflt (refine' c_rounded (by k_asm) (by k_asm) (by k_asm) (by k_asm) (by k_asm) (by first | exact rfl | assumption) (by ktr_room) (by ktr_units) (by ((first | exact TupIn.of_news (by k_mem) | exact TupIn.of_K (by k_asm) (by k_is) | exact TupIn.mono (by assumption) (fun _ _ e => e) (by ((intro p9 h9; repeat (first | (with_reducible exact h9) | (with_reducible refine List.mem_cons_of_mem _ ?_))))) | exact TupIn.mono (by assumption) (Fr.keep (by assumption)) (by ((intro p9 h9; repeat (first | (with_reducible exact h9) | (with_reducible refine List.mem_cons_of_mem _ ?_)))))))) (by ((first | assumption | omega | exact fracF_den (by first | assumption | omega)))) (Nat.le_trans (by bits_by_make) (by decide)) (Nat.le_trans (by bits_by_make) (by decide)) ?_; k_whole; (((unfold RetI; intro t9 h9 tk9 F9 N9; (try dsimp only); (try k_sweep); (try k_fold)))))) | (k_here; (with_reducible show wpAny _ _ (call (Value.ref 131) _) _ _ _); k_dflt (refine' c_floor (by k_asm) (by k_asm) (by k_asm) (by k_asm) (by k_asm) (by first | exact rfl | assumption) (by ktr_room) (by ktr_units) (by ((first | exact TupIn.of_news (by k_mem) | exact TupIn.of_K (by k_asm) (by k_is) | exact TupIn.mono (by assumption) (fun _ _ e => e) (by ((intro p9 h9; repeat (first | (with_reducible exact h9) | (with_reducible refine List.mem_cons_of_mem _ ?_))))) | exact TupIn.mono (by assumption) (Fr.keep (by assumption)) (by ((intro p9 h9; repeat (first | (with_reducible exact h9) | (with_reducible refine List.mem_cons_of_mem _ ?_)))))))) (by ((first | assumption | omega | exact fracF_den (by first | assumption | omega)))) (Nat.le_trans (by bits_by_make) (by decide)) ?_; k_whole; (((unfold RetI; intro t9 h9 tk9 F9 N9; (try dsimp only); (try k_sweep); (try k_fold)))))) | (k_here; (with_reducible show wpAny _ _ (call (Value.ref 117) _) _ _ _); k_dflt (refine' c_sign (by k_asm) (by k_asm) (by k_asm) (by k_asm) (by k_asm) (by first | exact rfl | assumption) (by ktr_room) (by ktr_units) (by ((first | exact TupIn.of_news (by k_mem) | exact TupIn.of_K (by k_asm) (by k_is) | exact TupIn.mono (by assumption) (fun _ _ e => e) (by ((intro p9 h9; repeat (first | (with_reducible exact h9) | (with_reducible refine List.mem_cons_of_mem _ ?_))))) | exact TupIn.mono (by assumption) (Fr.keep (by assumption)) (by ((intro p9 h9; repeat (first | (with_reducible exact h9) | (with_reducible refine List.mem_cons_of_mem _ ?_)))))))) ?_; k_whole; (((unfold RetI; intro t9 h9 tk9 F9 N9; (try dsimp only); (try k_sweep); (try k_fold)))))) | (k_here; (with_reducible show wpAny _ _ (call (Value.ref 110) _) _ _ _); k_dflt (refine' c_negated (by k_asm) (by k_asm) (by k_asm) (by k_asm) (by k_asm) (by first | exact rfl | assumption) (by ktr_room) (by ktr_units) (by ((first | exact TupIn.of_news (by k_mem) | exact TupIn.of_K (by k_asm) (by k_is) | exact TupIn.mono (by assumption) (fun _ _ e => e) (by ((intro p9 h9; repeat (first | (with_reducible exact h9) | (with_reducible refine List.mem_cons_of_mem _ ?_))))) | exact TupIn.mono (by assumption) (Fr.keep (by assumption)) (by ((intro p9 h9; repeat (first | (with_reducible exact h9) | (with_reducible refine List.mem_cons_of_mem _ ?_)))))))) ?_; k_whole; (((unfold RetT; intro D9 t9 u9 c9 h9 tk9 F9 N9 l9; (try simp only [AllLt, and_true] at l9); (try dsimp only); (try k_sweep); (try k_fold)))))) | (k_here; (with_reducible show wpAny _ _ (call (Value.ref 103) _) _ _ _); k_dflt (refine' c_divided (by k_asm) (by k_asm) (by k_asm) (by k_asm) (by k_asm) (by first | exact rfl | assumption) (by ktr_room) (by ktr_units) (by ((first | exact TupIn.of_news (by k_mem) | exact TupIn.of_K (by k_asm) (by k_is) | exact TupIn.mono (by assumption) (fun _ _ e => e) (by ((intro p9 h9; repeat (first | (with_reducible exact h9) | (with_reducible refine List.mem_cons_of_mem _ ?_))))) | exact TupIn.mono (by assumption) (Fr.keep (by assumption)) (by ((intro p9 h9; repeat (first | (with_reducible exact h9) | (with_reducible refine List.mem_cons_of_mem _ ?_)))))))) (by ((first | exact TupIn.of_news (by k_mem) | exact TupIn.of_K (by k_asm) (by k_is) | exact TupIn.mono (by assumption) (fun _ _ e => e) (by ((intro p9 h9; repeat (first | (with_reducible exact h9) | (with_reducible refine List.mem_cons_of_mem _ ?_))))) | exact TupIn.mono (by assumption) (Fr.keep (by assumption)) (by ((intro p9 h9; repeat (first | (with_reducible exact h9) | (with_reducible refine List.mem_cons_of_mem _ ?_)))))))) (by ((first | assumption | omega | exact fracF_den (by first | assumption | omega)))) (by ((first | assumption | omega | exact fracF_den (by first | assumption | omega)))) (Nat.le_trans (by bits_by_make) (by decide)) (Nat.le_trans (by bits_by_make) (by decide)) (Nat.le_trans (by bits_by_make) (by decide)) (Nat.le_trans (by bits_by_make) (by decide)) ?_; k_whole; (((unfold RetT; intro D9 t9 u9 c9 h9 tk9 F9 N9 l9; (try simp only [AllLt, and_true] at l9); (try dsimp only); (try k_sweep); (try k_fold)))))) | (k_here; (with_reducible show wpAny _ _ (call (Value.ref 96) _) _ _ _); k_dflt (refine' c_times (by k_asm) (by k_asm) (by k_asm) (by k_asm) (by k_asm) (by first | exact rfl | assumption) (by ktr_room) (by ktr_units) (by ((first | exact TupIn.of_news (by k_mem) | exact TupIn.of_K (by k_asm) (by k_is) | exact TupIn.mono (by assumption) (fun _ _ e => e) (by ((intro p9 h9; repeat (first | (with_reducible exact h9) | (with_reducible refine List.mem_cons_of_mem _ ?_))))) | exact TupIn.mono (by assumption) (Fr.keep (by assumption)) (by ((intro p9 h9; repeat (first | (with_reducible exact h9) | (with_reducible refine List.mem_cons_of_mem _ ?_)))))))) (by ((first | exact TupIn.of_news (by k_mem) | exact TupIn.of_K (by k_asm) (by k_is) | exact TupIn.mono (by assumption) (fun _ _ e => e) (by ((intro p9 h9; repeat (first | (with_reducible exact h9) | (with_reducible refine List.mem_cons_of_mem _ ?_))))) | exact TupIn.mono (by assumption) (Fr.keep (by assumption)) (by ((intro p9 h9; repeat (first | (with_reducible exact h9) | (with_reducible refine List.mem_cons_of_mem _ ?_)))))))) (by ((first | assumption | omega | exact fracF_den (by first | assumption | omega)))) (by ((first | assumption | omega | exact fracF_den (by first | assumption | omega)))) (Nat.le_trans (by bits_by_make) (by decide)) (Nat.le_trans (by bits_by_make) (by decide)) (Nat.le_trans (by bits_by_make) (by decide)) (Nat.le_trans (by bits_by_make) (by decide)) ?_; k_whole; (((unfold RetT; intro D9 t9 u9 c9 h9 tk9 F9 N9 l9; (try simp only [AllLt, and_true] at l9); (try dsimp only); (try k_sweep); (try k_fold)))))) | (k_here; (with_reducible show wpAny _ _ (call (Value.ref 89) _) _ _ _); k_dflt (refine' c_minus (by k_asm) (by k_asm) (by k_asm) (by k_asm) (by k_asm) (by first | exact rfl | assumption) (by ktr_room) (by ktr_units) (by ((first | exact TupIn.of_news (by k_mem) | exact TupIn.of_K (by k_asm) (by k_is) | exact TupIn.mono (by assumption) (fun _ _ e => e) (by ((intro p9 h9; repeat (first | (with_reducible exact h9) | (with_reducible refine List.mem_cons_of_mem _ ?_))))) | exact TupIn.mono (by assumption) (Fr.keep (by assumption)) (by ((intro p9 h9; repeat (first | (with_reducible exact h9) | (with_reducible refine List.mem_cons_of_mem _ ?_)))))))) (by ((first | exact TupIn.of_news (by k_mem) | exact TupIn.of_K (by k_asm) (by k_is) | exact TupIn.mono (by assumption) (fun _ _ e => e) (by ((intro p9 h9; repeat (first | (with_reducible exact h9) | (with_reducible refine List.mem_cons_of_mem _ ?_))))) | exact TupIn.mono (by assumption) (Fr.keep (by assumption)) (by ((intro p9 h9; repeat (first | (with_reducible exact h9) | (with_reducible refine List.mem_cons_of_mem _ ?_)))))))) (by ((first | assumption | omega | exact fracF_den (by first | assumption | omega)))) (by ((first | assumption | omega | exact fracF_den (by first | assumption | omega)))) (Nat.le_trans (by bits_by_make) (by decide)) (Nat.le_trans (by bits_by_make) (by decide)) (Nat.le_trans (by bits_by_make) (by decide)) (Nat.le_trans (by bits_by_make) (by decide)) ?_; k_whole; (((unfold RetT; intro D9 t9 u9 c9 h9 tk9 F9 N9 l9; (try simp only [AllLt, and_true] at l9); (try dsimp only); (try k_sweep); (try k_fold)))))) | (k_here; (with_reducible show wpAny _ _ (call (Value.ref 82) _) _ _ _); k_dflt (refine' c_frac (by k_asm) (by k_asm) (by k_asm) (by k_asm) (by k_asm) (by first | exact rfl | assumption) (by ktr_room) (by ktr_units) (by ((first | assumption | omega | exact fracF_den (by first | assumption | omega)))) (Nat.le_trans (by bits_by_make) (by decide)) ?_; k_whole; (((unfold RetT; intro D9 t9 u9 c9 h9 tk9 F9 N9 l9; (try simp only [AllLt, and_true] at l9); (try dsimp only); (try k_sweep); (try k_fold)))))) | (k_here; (with_reducible show wpAny _ _ (call (Value.ref 74) _) _ _ _); k_dflt (refine' c_gcd (by k_asm) (by k_asm) (by k_asm) (by k_asm) (by k_asm) (by first | exact rfl | assumption) (by ktr_room) (by ktr_units) (by ((first | assumption | omega | exact fracF_den (by first | assumption | omega)))) ?_; k_whole; (((intro t9 h9 tk9 p9 F9 N9; (try dsimp only); (try k_sweep); (try k_fold))))))) | (k_end; wrow_close) | walk1 | (dsimp only; walk1) | (leave1; walk_say "STEP leave1"; try dsimp only) | fail "no step"))
  all_goals (((refine' end_V (by with_reducible assumption) (by k_asm) (by k_asm) (by k_mem) (by k_mem) (by k_mem) (by ((intro p9 h9; repeat (first | (with_reducible exact h9) | (with_reducible refine List.mem_cons_of_mem _ ?_))))) (by (first | tbn_find | exact allLt_of (by assumption) | kcu_lt)) ?_ ?_ ?_ ?_ ?_ ?_ ?_)))
  all_goals first
    | with_reducible assumption
    | exact turnA_k0 (by with_reducible assumption) (by with_reducible assumption) (by with_reducible assumption)
    | exact turnA_k1 (by with_reducible assumption) (by with_reducible assumption) (by with_reducible assumption)
    | exact turnA_k2 (by with_reducible assumption) (by with_reducible assumption) (by with_reducible assumption)
    | exact turnA_k3 (by with_reducible assumption) (by with_reducible assumption) (by with_reducible assumption)
    | exact turnB_k0 (by with_reducible assumption) (by with_reducible assumption)
    | exact turnB_k1 (by with_reducible assumption) (by with_reducible assumption)
    | exact turnB_k2 (by with_reducible assumption) (by with_reducible assumption)
    | exact turnB_k3 (by with_reducible assumption) (by with_reducible assumption)
    | exact Nat.le_trans (by bits_by_make) (by decide)
    | exact (by decide : (0 : Int) < 1)
end
end
section
section
variable {w : World} {p : Program} {loose : List Str} {mean : ExcName → Option Value} {mg mb : Str → Option Value} {dp un : Nat} {gd : Option (List Code)} {cn : Str} {cs : Scope} {a : Addr} {ccd : Value} {cl : List (Str × Addr)} {outer : List Env} {A₀ : Around} {base h₀ : Heap} {L : Addr} {m : Str → Option Value} {news : List (Addr × Obj)} {s : Shared} {Q E : Value → Shared → Prop}
theorem c_tan {A1 : Addr} {a0 a1 : Int} (B : Below A₀ base outer h₀) (F : Fr h₀ L s.heap m) (X : (Mine.hd.heap_1 w.params).In h₀) (N : News h₀ L s.heap news) (T : Top p loose mean mg mb h₀) (hk : cs.kind = .function) (hd : dp + 7 < recursionLimit) (hu : un + 56 < cLine) (h1 : TupIn h₀ news A1 a0 a1) (g2 : 0 < a1) (g3 : (turnF a0 a1 (65536 * 65536)).1.1 ≠ 0) (s1 : intBits a0 ≤ 64) (s2 : intBits a1 ≤ 64)
    (ret : RetT h₀ L m news s Q (tellF (turnF a0 a1 (65536 * 65536))).1 (tellF (turnF a0 a1 (65536 * 65536))).2) :
    wpAny (model Challenge.rw_xm0723_01.row.prog w) (ktrTop dp un gd cn cs L a ccd cl outer) (call (.ref 198) [.ref A1]) Q E s := by
  w_on
  refine wpAny_call ?_
  k_dflt (((refine' code_def ?k1 ?k2 ?k3 ?k4 ?k5 ?kA ?kF ?kK ?k6 ?k7 ?k8 ?k9 ?kB ?_ ?c2 ?c3 ?c4 ?c5; (case kA => exact rfl); (case kF => exact rfl); (case kK => assumption); (case k1 => k_asm); (case k2 => k_asm); (case k3 => k_asm); (case k4 => k_asm); (case k5 => k_asm); (case k6 => k_is); (case k7 => k_is); (case k8 => ktr_room); (case k9 => first | exact BindsTo.of_eq rfl | exact binds_K (by k_in) rfl (by k_is) rfl rfl rfl); (case c5 => decide); (case kB => exact locs rfl); (case c2 => exact rfl); (case c3 => exact rfl); (case c4 => exact rfl); k_whole; intro g' L' h' FG' F' N' B' X' T'; (try dsimp only); (try k_fold))))
  (rename Fr h₀ _ _ _ => FG)
  replace h1 := h1.mono FG.keep (fun _ e => e)
  (repeat' (first | (k_unfold; (try dsimp only)) | ((with_reducible show wpAny _ _ (call (Value.ref _) _) _ _ _); first | (k_here; (with_reducible show wpAny _ _ (call (Value.ref 190) _) _ _ _); first | (exfalso; omega) | (((k_here; (with_reducible show wpAny _ _ (call (Value.ref 190) _) _ _ _); k_dflt (refine' c_turn (by k_asm) (by k_asm) (by k_asm) (by k_asm) (by k_asm) (by first | exact rfl | assumption) (by ktr_room) (by ktr_units) (by ((first | exact TupIn.of_news (by k_mem) | exact TupIn.of_K (by k_asm) (by k_is) | exact TupIn.mono (by assumption) (fun _ _ e => e) (by ((intro p9 h9; repeat (first | (with_reducible exact h9) | (with_reducible refine List.mem_cons_of_mem _ ?_))))) | exact TupIn.mono (by assumption) (Fr.keep (by assumption)) (by ((intro p9 h9; repeat (first | (with_reducible exact h9) | (with_reducible refine List.mem_cons_of_mem _ ?_)))))))) (by ((first | assumption | omega | exact fracF_den (by first | assumption | omega)))) (by ((first | assumption | omega | exact fracF_den (by first | assumption | omega)))) (by ((first | assumption | omega | exact fracF_den (by first | assumption | omega)))) (Nat.le_trans (by bits_by_make) (by decide)) (Nat.le_trans (by bits_by_make) (by decide)) ?_; k_whole; (((unfold RetV; intro x9 y9 z9 v9 D9 C9 S9 c9 t9 u9 v9 w9 c8 c7 h9 tk9 e9 p8 p9 b6 b7 b8 b9 F9 N9 l9; (try simp only [AllLt, and_true] at l9); (try dsimp only); (try k_sweep); (try k_fold))))))); ((obtain ⟨n9, z9, q9⟩ := turn_nz (by with_reducible assumption) (by with_reducible assumption) (by with_reducible assumption))))) | (k_here; (with_reducible show wpAny _ _ (call (Value.ref 182) _) _ _ _); k_dflt (refine' c_quarter (by k_asm) (by k_asm) (by k_asm) (by k_asm) (by k_asm) (by first | exact rfl | assumption) (by ktr_room) (by ktr_units) (by ((first | exact TupIn.of_news (by k_mem) | exact TupIn.of_K (by k_asm) (by k_is) | exact TupIn.mono (by assumption) (fun _ _ e => e) (by ((intro p9 h9; repeat (first | (with_reducible exact h9) | (with_reducible refine List.mem_cons_of_mem _ ?_))))) | exact TupIn.mono (by assumption) (Fr.keep (by assumption)) (by ((intro p9 h9; repeat (first | (with_reducible exact h9) | (with_reducible refine List.mem_cons_of_mem _ ?_)))))))) (by ((first | assumption | omega | exact fracF_den (by first | assumption | omega)))) (by ((first | assumption | omega | exact fracF_den (by first | assumption | omega)))) (by ((first | assumption | omega | exact fracF_den (by first | assumption | omega)))) (by ((first | assumption | omega | exact fracF_den (by first | assumption | omega)))) (Nat.le_trans (by bits_by_make) (by decide)) (Nat.le_trans (by bits_by_make) (by decide)) (Nat.le_trans (by bits_by_make) (by decide)) ?_; k_whole; (((unfold RetV; intro x9 y9 z9 v9 D9 C9 S9 c9 t9 u9 v9 w9 c8 c7 h9 tk9 e9 p8 p9 b6 b7 b8 b9 F9 N9 l9; (try simp only [AllLt, and_true] at l9); (try dsimp only); (try k_sweep); (try k_fold)))))) | (k_here; (with_reducible show wpAny _ _ (call (Value.ref 168) _) _ _ _); k_dflt (refine' c_small (by k_asm) (by k_asm) (by k_asm) (by k_asm) (by k_asm) (by first | exact rfl | assumption) (by ktr_room) (by ktr_units) (by ((first | exact TupIn.of_news (by k_mem) | exact TupIn.of_K (by k_asm) (by k_is) | exact TupIn.mono (by assumption) (fun _ _ e => e) (by ((intro p9 h9; repeat (first | (with_reducible exact h9) | (with_reducible refine List.mem_cons_of_mem _ ?_))))) | exact TupIn.mono (by assumption) (Fr.keep (by assumption)) (by ((intro p9 h9; repeat (first | (with_reducible exact h9) | (with_reducible refine List.mem_cons_of_mem _ ?_)))))))) (by ((first | assumption | omega | exact fracF_den (by first | assumption | omega)))) (by ((first | assumption | omega | exact fracF_den (by first | assumption | omega)))) (by ((first | assumption | omega | exact fracF_den (by first | assumption | omega)))) (by ((first | assumption | omega | exact fracF_den (by first | assumption | omega)))) (Nat.le_trans (by bits_by_make) (by decide)) (Nat.le_trans (by bits_by_make) (by decide)) (Nat.le_trans (by bits_by_make) (by decide)) ?_; k_whole; (((unfold RetV; intro x9 y9 z9 v9 D9 C9 S9 c9 t9 u9 v9 w9 c8 c7 h9 tk9 e9 p8 p9 b6 b7 b8 b9 F9 N9 l9; (try simp only [AllLt, and_true] at l9); (try dsimp only); (try k_sweep); (try k_fold)))))) | (k_here; (with_reducible show wpAny _ _ (call (Value.ref 161) _) _ _ _); k_dflt (refine' c_series (by k_asm) (by k_asm) (by k_asm) (by k_asm) (by k_asm) (by first | exact rfl | assumption) (by ktr_room) (by ktr_units) (by ((first | assumption | omega | exact fracF_den (by first | assumption | omega)))) (by ((first | assumption | omega | exact fracF_den (by first | assumption | omega)))) (by ((first | assumption | omega | exact fracF_den (by first | assumption | omega)))) (by ((first | assumption | omega | exact fracF_den (by first | assumption | omega)))) (by ((first | assumption | omega | exact fracF_den (by first | assumption | omega)))) (Nat.le_trans (by bits_by_make) (by decide)) (Nat.le_trans (by bits_by_make) (by decide)) (Nat.le_trans (by bits_by_make) (by decide)) ?_; k_whole; (((unfold RetI; intro t9 h9 tk9 F9 N9; (try dsimp only); (try k_sweep); (try k_fold)))))) | (k_here; (with_reducible show wpAny _ _ (call (Value.ref 175) _) _ _ _); k_dflt (refine' c_near (by k_asm) (by k_asm) (by k_asm) (by k_asm) (by k_asm) (by first | exact rfl | assumption) (by ktr_room) (by ktr_units) (by ((first | assumption | omega | exact fracF_den (by first | assumption | omega)))) (by ((first | assumption | omega | exact fracF_den (by first | assumption | omega)))) (Nat.le_trans (by bits_by_make) (by decide)) (Nat.le_trans (by bits_by_make) (by decide)) (Nat.le_trans (by bits_by_make) (by decide)) ?_; k_whole; (((unfold RetT; intro D9 t9 u9 c9 h9 tk9 F9 N9 l9; (try simp only [AllLt, and_true] at l9); (try dsimp only); (try k_sweep); (try k_fold)))))) | (k_here; (with_reducible show wpAny _ _ (call (Value.ref 154) _) _ _ _); k_dflt (refine' c_rad (by k_asm) (by k_asm) (by k_asm) (by k_asm) (by k_asm) (by first | exact rfl | assumption) (by ktr_room) (by ktr_units) (by ((first | exact TupIn.of_news (by k_mem) | exact TupIn.of_K (by k_asm) (by k_is) | exact TupIn.mono (by assumption) (fun _ _ e => e) (by ((intro p9 h9; repeat (first | (with_reducible exact h9) | (with_reducible refine List.mem_cons_of_mem _ ?_))))) | exact TupIn.mono (by assumption) (Fr.keep (by assumption)) (by ((intro p9 h9; repeat (first | (with_reducible exact h9) | (with_reducible refine List.mem_cons_of_mem _ ?_)))))))) (by ((first | assumption | omega | exact fracF_den (by first | assumption | omega)))) (Nat.le_trans (by bits_by_make) (by decide)) (Nat.le_trans (by bits_by_make) (by decide)) (Nat.le_trans (by bits_by_make) (by decide)) ?_; k_whole; (((unfold RetI; intro t9 h9 tk9 F9 N9; (try dsimp only); (try k_sweep); (try k_fold)))))) | (k_here; (with_reducible show wpAny _ _ (call (Value.ref 147) _) _ _ _); k_dflt (refine' c_want (by k_asm) (by k_asm) (by k_asm) (by k_asm) (by k_asm) (by first | exact rfl | assumption) (by ktr_room) (by ktr_units) (by ((first | assumption | omega | exact fracF_den (by first | assumption | omega)))) (by ((first | assumption | omega | exact fracF_den (by first | assumption | omega)))) ?_; k_whole; (((unfold RetN; intro h9 tk9 F9 N9; (try dsimp only); (try k_sweep); (try k_fold)))))) | (k_here; (with_reducible show wpAny _ _ (call (Value.ref 124) _) _ _ _); k_dflt (refine' c_compare (by k_asm) (by k_asm) (by k_asm) (by k_asm) (by k_asm) (by first | exact rfl | assumption) (by ktr_room) (by ktr_units) (by ((first | exact TupIn.of_news (by k_mem) | exact TupIn.of_K (by k_asm) (by k_is) | exact TupIn.mono (by assumption) (fun _ _ e => e) (by ((intro p9 h9; repeat (first | (with_reducible exact h9) | (with_reducible refine List.mem_cons_of_mem _ ?_))))) | exact TupIn.mono (by assumption) (Fr.keep (by assumption)) (by ((intro p9 h9; repeat (first | (with_reducible exact h9) | (with_reducible refine List.mem_cons_of_mem _ ?_)))))))) (by ((first | exact TupIn.of_news (by k_mem) | exact TupIn.of_K (by k_asm) (by k_is) | exact TupIn.mono (by assumption) (fun _ _ e => e) (by ((intro p9 h9; repeat (first | (with_reducible exact h9) | (with_reducible refine List.mem_cons_of_mem _ ?_))))) | exact TupIn.mono (by assumption) (Fr.keep (by assumption)) (by ((intro p9 h9; repeat (first | (with_reducible exact h9) | (with_reducible refine List.mem_cons_of_mem _ ?_)))))))) (Nat.le_trans (by bits_by_make) (by decide)) (Nat.le_trans (by bits_by_make) (by decide)) (Nat.le_trans (by bits_by_make) (by decide)) (Nat.le_trans (by bits_by_make) (by decide)) ?_; k_whole; (((unfold RetI; intro t9 h9 tk9 F9 N9; (try dsimp only); (try k_sweep); (try k_fold)))))) | (k_here; (with_reducible show wpAny _ _ (call (Value.ref 138) _) _ _ _); k_dflt (refine' c_rounded (by k_asm) (by k_asm) (by k_asm) (by k_asm) (by k_asm) (by first | exact rfl | assumption) (by ktr_room) (by ktr_units) (by ((first | exact TupIn.of_news (by k_mem) | exact TupIn.of_K (by k_asm) (by k_is) | exact TupIn.mono (by assumption) (fun _ _ e => e) (by ((intro p9 h9; repeat (first | (with_reducible exact h9) | (with_reducible refine List.mem_cons_of_mem _ ?_))))) | exact TupIn.mono (by assumption) (Fr.keep (by assumption)) (by ((intro p9 h9; repeat (first | (with_reducible exact h9) | (with_reducible refine List.mem_cons_of_mem _ ?_)))))))) (by ((first | assumption | omega | exact fracF_den (by first | assumption | omega)))) (Nat.le_trans (by bits_by_make) (by decide)) (Nat.le_trans (by bits_by_make) (by decide)) ?_; k_whole; (((unfold RetI; intro t9 h9 tk9 F9 N9; (try dsimp only); (try k_sweep); (try k_fold)))))) | (k_here; (with_reducible show wpAny _ _ (call (Value.ref 131) _) _ _ _); k_dflt (refine' c_floor (by k_asm) (by k_asm) (by k_asm) (by k_asm) (by k_asm) (by first | exact rfl | assumption) (by ktr_room) (by ktr_units) (by ((first | exact TupIn.of_news (by k_mem) | exact TupIn.of_K (by k_asm) (by k_is) | exact TupIn.mono (by assumption) (fun _ _ e => e) (by ((intro p9 h9; repeat (first | (with_reducible exact h9) | (with_reducible refine List.mem_cons_of_mem _ ?_))))) | exact TupIn.mono (by assumption) (Fr.keep (by assumption)) (by ((intro p9 h9; repeat (first | (with_reducible exact h9) | (with_reducible refine List.mem_cons_of_mem _ ?_)))))))) (by ((first | assumption | omega | exact fracF_den (by first | assumption | omega)))) (Nat.le_trans (by bits_by_make) (by decide)) ?_; k_whole; (((unfold RetI; intro t9 h9 tk9 F9 N9; (try dsimp only); (try k_sweep); (try k_fold)))))) | (k_here; (with_reducible show wpAny _ _ (call (Value.ref 117) _) _ _ _); k_dflt (refine' c_sign (by k_asm) (by k_asm) (by k_asm) (by k_asm) (by k_asm) (by first | exact rfl | assumption) (by ktr_room) (by ktr_units) (by ((first | exact TupIn.of_news (by k_mem) | exact TupIn.of_K (by k_asm) (by k_is) | exact TupIn.mono (by assumption) (fun _ _ e => e) (by ((intro p9 h9; repeat (first | (with_reducible exact h9) | (with_reducible refine List.mem_cons_of_mem _ ?_))))) | exact TupIn.mono (by assumption) (Fr.keep (by assumption)) (by ((intro p9 h9; repeat (first | (with_reducible exact h9) | (with_reducible refine List.mem_cons_of_mem _ ?_)))))))) ?_; k_whole; (((unfold RetI; intro t9 h9 tk9 F9 N9; (try dsimp only); (try k_sweep); (try k_fold)))))) | (k_here; (with_reducible show wpAny _ _ (call (Value.ref 110) _) _ _ _); k_dflt (refine' c_negated (by k_asm) (by k_asm) (by k_asm) (by k_asm) (by k_asm) (by first | exact rfl | assumption) (by ktr_room) (by ktr_units) (by ((first | exact TupIn.of_news (by k_mem) | exact TupIn.of_K (by k_asm) (by k_is) | exact TupIn.mono (by assumption) (fun _ _ e => e) (by ((intro p9 h9; repeat (first | (with_reducible exact h9) | (with_reducible refine List.mem_cons_of_mem _ ?_))))) | exact TupIn.mono (by assumption) (Fr.keep (by assumption)) (by ((intro p9 h9; repeat (first | (with_reducible exact h9) | (with_reducible refine List.mem_cons_of_mem _ ?_)))))))) ?_; k_whole; (((unfold RetT; intro D9 t9 u9 c9 h9 tk9 F9 N9 l9; (try simp only [AllLt, and_true] at l9); (try dsimp only); (try k_sweep); (try k_fold)))))) | (k_here; (with_reducible show wpAny _ _ (call (Value.ref 103) _) _ _ _); k_dflt (refine' c_divided (by k_asm) (by k_asm) (by k_asm) (by k_asm) (by k_asm) (by first | exact rfl | assumption) (by ktr_room) (by ktr_units) (by ((first | exact TupIn.of_news (by k_mem) | exact TupIn.of_K (by k_asm) (by k_is) | exact TupIn.mono (by assumption) (fun _ _ e => e) (by ((intro p9 h9; repeat (first | (with_reducible exact h9) | (with_reducible refine List.mem_cons_of_mem _ ?_))))) | exact TupIn.mono (by assumption) (Fr.keep (by assumption)) (by ((intro p9 h9; repeat (first | (with_reducible exact h9) | (with_reducible refine List.mem_cons_of_mem _ ?_)))))))) (by ((first | exact TupIn.of_news (by k_mem) | exact TupIn.of_K (by k_asm) (by k_is) | exact TupIn.mono (by assumption) (fun _ _ e => e) (by ((intro p9 h9; repeat (first | (with_reducible exact h9) | (with_reducible refine List.mem_cons_of_mem _ ?_))))) | exact TupIn.mono (by assumption) (Fr.keep (by assumption)) (by ((intro p9 h9; repeat (first | (with_reducible exact h9) | (with_reducible refine List.mem_cons_of_mem _ ?_)))))))) (by ((first | assumption | omega | exact fracF_den (by first | assumption | omega)))) (by ((first | assumption | omega | exact fracF_den (by first | assumption | omega)))) (Nat.le_trans (by bits_by_make) (by decide)) (Nat.le_trans (by bits_by_make) (by decide)) (Nat.le_trans (by bits_by_make) (by decide)) (Nat.le_trans (by bits_by_make) (by decide)) ?_; k_whole; (((unfold RetT; intro D9 t9 u9 c9 h9 tk9 F9 N9 l9; (try simp only [AllLt, and_true] at l9); (try dsimp only); (try k_sweep); (try k_fold)))))) | (k_here; (with_reducible show wpAny _ _ (call (Value.ref 96) _) _ _ _); k_dflt (refine' c_times (by k_asm) (by k_asm) (by k_asm) (by k_asm) (by k_asm) (by first | exact rfl | assumption) (by ktr_room) (by ktr_units) (by ((first | exact TupIn.of_news (by k_mem) | exact TupIn.of_K (by k_asm) (by k_is) | exact TupIn.mono (by assumption) (fun _ _ e => e) (by ((intro p9 h9; repeat (first | (with_reducible exact h9) | (with_reducible refine List.mem_cons_of_mem _ ?_))))) | exact TupIn.mono (by assumption) (Fr.keep (by assumption)) (by ((intro p9 h9; repeat (first | (with_reducible exact h9) | (with_reducible refine List.mem_cons_of_mem _ ?_)))))))) (by ((first | exact TupIn.of_news (by k_mem) | exact TupIn.of_K (by k_asm) (by k_is) | exact TupIn.mono (by assumption) (fun _ _ e => e) (by ((intro p9 h9; repeat (first | (with_reducible exact h9) | (with_reducible refine List.mem_cons_of_mem _ ?_))))) | exact TupIn.mono (by assumption) (Fr.keep (by assumption)) (by ((intro p9 h9; repeat (first | (with_reducible exact h9) | (with_reducible refine List.mem_cons_of_mem _ ?_)))))))) (by ((first | assumption | omega | exact fracF_den (by first | assumption | omega)))) (by ((first | assumption | omega | exact fracF_den (by first | assumption | omega)))) (Nat.le_trans (by bits_by_make) (by decide)) (Nat.le_trans (by bits_by_make) (by decide)) (Nat.le_trans (by bits_by_make) (by decide)) (Nat.le_trans (by bits_by_make) (by decide)) ?_; k_whole; (((unfold RetT; intro D9 t9 u9 c9 h9 tk9 F9 N9 l9; (try simp only [AllLt, and_true] at l9); (try dsimp only); (try k_sweep); (try k_fold)))))) | (k_here; (with_reducible show wpAny _ _ (call (Value.ref 89) _) _ _ _); k_dflt (refine' c_minus (by k_asm) (by k_asm) (by k_asm) (by k_asm) (by k_asm) (by first | exact rfl | assumption) (by ktr_room) (by ktr_units) (by ((first | exact TupIn.of_news (by k_mem) | exact TupIn.of_K (by k_asm) (by k_is) | exact TupIn.mono (by assumption) (fun _ _ e => e) (by ((intro p9 h9; repeat (first | (with_reducible exact h9) | (with_reducible refine List.mem_cons_of_mem _ ?_))))) | exact TupIn.mono (by assumption) (Fr.keep (by assumption)) (by ((intro p9 h9; repeat (first | (with_reducible exact h9) | (with_reducible refine List.mem_cons_of_mem _ ?_)))))))) (by ((first | exact TupIn.of_news (by k_mem) | exact TupIn.of_K (by k_asm) (by k_is) | exact TupIn.mono (by assumption) (fun _ _ e => e) (by ((intro p9 h9; repeat (first | (with_reducible exact h9) | (with_reducible refine List.mem_cons_of_mem _ ?_))))) | exact TupIn.mono (by assumption) (Fr.keep (by assumption)) (by ((intro p9 h9; repeat (first | (with_reducible exact h9) | (with_reducible refine List.mem_cons_of_mem _ ?_)))))))) (by ((first | assumption | omega | exact fracF_den (by first | assumption | omega)))) (by ((first | assumption | omega | exact fracF_den (by first | assumption | omega)))) (Nat.le_trans (by bits_by_make) (by decide)) (Nat.le_trans (by bits_by_make) (by decide)) (Nat.le_trans (by bits_by_make) (by decide)) (Nat.le_trans (by bits_by_make) (by decide)) ?_; k_whole; (((unfold RetT; intro D9 t9 u9 c9 h9 tk9 F9 N9 l9; (try simp only [AllLt, and_true] at l9); (try dsimp only); (try k_sweep); (try k_fold)))))) | (k_here; (with_reducible show wpAny _ _ (call (Value.ref 82) _) _ _ _); k_dflt (refine' c_frac (by k_asm) (by k_asm) (by k_asm) (by k_asm) (by k_asm) (by first | exact rfl | assumption) (by ktr_room) (by ktr_units) (by ((first | assumption | omega | exact fracF_den (by first | assumption | omega)))) (Nat.le_trans (by bits_by_make) (by decide)) ?_; k_whole; (((unfold RetT; intro D9 t9 u9 c9 h9 tk9 F9 N9 l9; (try simp only [AllLt, and_true] at l9); (try dsimp only); (try k_sweep); (try k_fold)))))) | (k_here; (with_reducible show wpAny _ _ (call (Value.ref 74) _) _ _ _); k_dflt (refine' c_gcd (by k_asm) (by k_asm) (by k_asm) (by k_asm) (by k_asm) (by first | exact rfl | assumption) (by ktr_room) (by ktr_units) (by ((first | assumption | omega | exact fracF_den (by first | assumption | omega)))) ?_; k_whole; (((intro t9 h9 tk9 p9 F9 N9; (try dsimp only); (try k_sweep); (try k_fold))))))) | (k_end; wrow_close) | walk1 | (dsimp only; walk1) | (leave1; walk_say "STEP leave1"; try dsimp only) | fail "no step"))
  all_goals (((refine' end_T (by with_reducible assumption) (by k_asm) (by k_asm) (by k_mem) (by ((intro p9 h9; repeat (first | (with_reducible exact h9) | (with_reducible refine List.mem_cons_of_mem _ ?_))))) (by (first | tbn_find | exact allLt_of (by assumption) | kcu_lt)) ?_ ?_)))
  all_goals (rw [tell_eq (by with_reducible assumption)])
end
end
section
local macro_rules | `(tactic| walk_at "none") => `(tactic| skip)
section
variable {w : World} {p : Program} {loose : List Str} {mean : ExcName → Option Value} {mg mb : Str → Option Value} {dp un : Nat} {gd : Option (List Code)} {cn : Str} {cs : Scope} {a : Addr} {ccd : Value} {cl : List (Str × Addr)} {outer : List Env} {A₀ : Around} {base h₀ : Heap} {L : Addr} {m : Str → Option Value} {news : List (Addr × Obj)} {s : Shared} {Q E : Value → Shared → Prop}
theorem c_ansX {A1 : Addr} {a0 a1 : Int} {tn : Tok} (B : Below A₀ base outer h₀) (F : Fr h₀ L s.heap m) (X : (Mine.hd.heap_1 w.params).In h₀) (N : News h₀ L s.heap news) (T : Top p loose mean mg mb h₀) (hk : cs.kind = .function) (hd : dp + 11 < recursionLimit) (hu : un + 88 < cLine) (h1 : TupIn h₀ news A1 a0 a1) (g2 : 0 < a1) (g3 : (turnF a0 a1 (65536 * 65536)).1.1 ≠ 0) (s1 : intBits a0 ≤ 64) (s2 : intBits a1 ≤ 64)
    (ret : RetA h₀ L m news s Q 0 1 (tellF (turnF a0 a1 (65536 * 65536))).1 (tellF (turnF a0 a1 (65536 * 65536))).2) :
    wpAny (model Challenge.rw_xm0723_01.row.prog w) (ktrTop dp un gd cn cs L a ccd cl outer) (call (.ref 322) [.str (Str.ofString "skewX") tn, .ref A1]) Q E s := by
  w_on
  refine wpAny_call ?_
  k_dflt (((refine' code_def ?k1 ?k2 ?k3 ?k4 ?k5 ?kA ?kF ?kK ?k6 ?k7 ?k8 ?k9 ?kB ?_ ?c2 ?c3 ?c4 ?c5; (case kA => exact rfl); (case kF => exact rfl); (case kK => assumption); (case k1 => k_asm); (case k2 => k_asm); (case k3 => k_asm); (case k4 => k_asm); (case k5 => k_asm); (case k6 => k_is); (case k7 => k_is); (case k8 => ktr_room); (case k9 => first | exact BindsTo.of_eq rfl | exact binds_K (by k_in) rfl (by k_is) rfl rfl rfl); (case c5 => decide); (case kB => exact locs rfl); (case c2 => exact rfl); (case c3 => exact rfl); (case c4 => exact rfl); k_whole; intro g' L' h' FG' F' N' B' X' T'; (try dsimp only); (try k_fold))))
  (rename Fr h₀ _ _ _ => FG)
  replace h1 := h1.mono FG.keep (fun _ e => e)
  (repeat' (first | (k_unfold; (try dsimp only)) | ((with_reducible show wpAny _ _ (call (Value.ref _) _) _ _ _); first | (k_here; (with_reducible show wpAny _ _ (call (Value.ref 198) _) _ _ _); k_dflt (refine' c_tan (by k_asm) (by k_asm) (by k_asm) (by k_asm) (by k_asm) (by first | exact rfl | assumption) (by ktr_room) (by ktr_units) (by ((first | exact TupIn.of_news (by k_mem) | exact TupIn.of_K (by k_asm) (by k_is) | exact TupIn.mono (by assumption) (fun _ _ e => e) (by ((intro p9 h9; repeat (first | (with_reducible exact h9) | (with_reducible refine List.mem_cons_of_mem _ ?_))))) | exact TupIn.mono (by assumption) (Fr.keep (by assumption)) (by ((intro p9 h9; repeat (first | (with_reducible exact h9) | (with_reducible refine List.mem_cons_of_mem _ ?_)))))))) (by ((first | assumption | omega | exact fracF_den (by first | assumption | omega)))) (by (first | assumption | exact tan_zero)) (Nat.le_trans (by bits_by_make) (by decide)) (Nat.le_trans (by bits_by_make) (by decide)) ?_; k_whole; (((unfold RetT; intro D9 t9 u9 c9 h9 tk9 F9 N9 l9; (try simp only [AllLt, and_true] at l9); (try dsimp only); (try k_sweep); (try k_fold)))))) | (k_here; (with_reducible show wpAny _ _ (call (Value.ref 182) _) _ _ _); k_dflt (refine' c_quarter (by k_asm) (by k_asm) (by k_asm) (by k_asm) (by k_asm) (by first | exact rfl | assumption) (by ktr_room) (by ktr_units) (by ((first | exact TupIn.of_news (by k_mem) | exact TupIn.of_K (by k_asm) (by k_is) | exact TupIn.mono (by assumption) (fun _ _ e => e) (by ((intro p9 h9; repeat (first | (with_reducible exact h9) | (with_reducible refine List.mem_cons_of_mem _ ?_))))) | exact TupIn.mono (by assumption) (Fr.keep (by assumption)) (by ((intro p9 h9; repeat (first | (with_reducible exact h9) | (with_reducible refine List.mem_cons_of_mem _ ?_)))))))) (by ((first | assumption | omega | exact fracF_den (by first | assumption | omega)))) (by ((first | assumption | omega | exact fracF_den (by first | assumption | omega)))) (by ((first | assumption | omega | exact fracF_den (by first | assumption | omega)))) (by ((first | assumption | omega | exact fracF_den (by first | assumption | omega)))) (Nat.le_trans (by bits_by_make) (by decide)) (Nat.le_trans (by bits_by_make) (by decide)) (Nat.le_trans (by bits_by_make) (by decide)) ?_; k_whole; (((unfold RetV; intro x9 y9 z9 v9 D9 C9 S9 c9 t9 u9 v9 w9 c8 c7 h9 tk9 e9 p8 p9 b6 b7 b8 b9 F9 N9 l9; (try simp only [AllLt, and_true] at l9); (try dsimp only); (try k_sweep); (try k_fold)))))) | (k_here; (with_reducible show wpAny _ _ (call (Value.ref 168) _) _ _ _); k_dflt (refine' c_small (by k_asm) (by k_asm) (by k_asm) (by k_asm) (by k_asm) (by first | exact rfl | assumption) (by ktr_room) (by ktr_units) (by ((first | exact TupIn.of_news (by k_mem) | exact TupIn.of_K (by k_asm) (by k_is) | exact TupIn.mono (by assumption) (fun _ _ e => e) (by ((intro p9 h9; repeat (first | (with_reducible exact h9) | (with_reducible refine List.mem_cons_of_mem _ ?_))))) | exact TupIn.mono (by assumption) (Fr.keep (by assumption)) (by ((intro p9 h9; repeat (first | (with_reducible exact h9) | (with_reducible refine List.mem_cons_of_mem _ ?_)))))))) (by ((first | assumption | omega | exact fracF_den (by first | assumption | omega)))) (by ((first | assumption | omega | exact fracF_den (by first | assumption | omega)))) (by ((first | assumption | omega | exact fracF_den (by first | assumption | omega)))) (by ((first | assumption | omega | exact fracF_den (by first | assumption | omega)))) (Nat.le_trans (by bits_by_make) (by decide)) (Nat.le_trans (by bits_by_make) (by decide)) (Nat.le_trans (by bits_by_make) (by decide)) ?_; k_whole; (((unfold RetV; intro x9 y9 z9 v9 D9 C9 S9 c9 t9 u9 v9 w9 c8 c7 h9 tk9 e9 p8 p9 b6 b7 b8 b9 F9 N9 l9; (try simp only [AllLt, and_true] at l9); (try dsimp only); (try k_sweep); (try k_fold)))))) | (k_here; (with_reducible show wpAny _ _ (call (Value.ref 161) _) _ _ _); k_dflt (refine' c_series (by k_asm) (by k_asm) (by k_asm) (by k_asm) (by k_asm) (by first | exact rfl | assumption) (by ktr_room) (by ktr_units) (by ((first | assumption | omega | exact fracF_den (by first | assumption | omega)))) (by ((first | assumption | omega | exact fracF_den (by first | assumption | omega)))) (by ((first | assumption | omega | exact fracF_den (by first | assumption | omega)))) (by ((first | assumption | omega | exact fracF_den (by first | assumption | omega)))) (by ((first | assumption | omega | exact fracF_den (by first | assumption | omega)))) (Nat.le_trans (by bits_by_make) (by decide)) (Nat.le_trans (by bits_by_make) (by decide)) (Nat.le_trans (by bits_by_make) (by decide)) ?_; k_whole; (((unfold RetI; intro t9 h9 tk9 F9 N9; (try dsimp only); (try k_sweep); (try k_fold)))))) | (k_here; (with_reducible show wpAny _ _ (call (Value.ref 175) _) _ _ _); k_dflt (refine' c_near (by k_asm) (by k_asm) (by k_asm) (by k_asm) (by k_asm) (by first | exact rfl | assumption) (by ktr_room) (by ktr_units) (by ((first | assumption | omega | exact fracF_den (by first | assumption | omega)))) (by ((first | assumption | omega | exact fracF_den (by first | assumption | omega)))) (Nat.le_trans (by bits_by_make) (by decide)) (Nat.le_trans (by bits_by_make) (by decide)) (Nat.le_trans (by bits_by_make) (by decide)) ?_; k_whole; (((unfold RetT; intro D9 t9 u9 c9 h9 tk9 F9 N9 l9; (try simp only [AllLt, and_true] at l9); (try dsimp only); (try k_sweep); (try k_fold)))))) | (k_here; (with_reducible show wpAny _ _ (call (Value.ref 154) _) _ _ _); k_dflt (refine' c_rad (by k_asm) (by k_asm) (by k_asm) (by k_asm) (by k_asm) (by first | exact rfl | assumption) (by ktr_room) (by ktr_units) (by ((first | exact TupIn.of_news (by k_mem) | exact TupIn.of_K (by k_asm) (by k_is) | exact TupIn.mono (by assumption) (fun _ _ e => e) (by ((intro p9 h9; repeat (first | (with_reducible exact h9) | (with_reducible refine List.mem_cons_of_mem _ ?_))))) | exact TupIn.mono (by assumption) (Fr.keep (by assumption)) (by ((intro p9 h9; repeat (first | (with_reducible exact h9) | (with_reducible refine List.mem_cons_of_mem _ ?_)))))))) (by ((first | assumption | omega | exact fracF_den (by first | assumption | omega)))) (Nat.le_trans (by bits_by_make) (by decide)) (Nat.le_trans (by bits_by_make) (by decide)) (Nat.le_trans (by bits_by_make) (by decide)) ?_; k_whole; (((unfold RetI; intro t9 h9 tk9 F9 N9; (try dsimp only); (try k_sweep); (try k_fold)))))) | (k_here; (with_reducible show wpAny _ _ (call (Value.ref 147) _) _ _ _); k_dflt (refine' c_want (by k_asm) (by k_asm) (by k_asm) (by k_asm) (by k_asm) (by first | exact rfl | assumption) (by ktr_room) (by ktr_units) (by ((first | assumption | omega | exact fracF_den (by first | assumption | omega)))) (by ((first | assumption | omega | exact fracF_den (by first | assumption | omega)))) ?_; k_whole; (((unfold RetN; intro h9 tk9 F9 N9; (try dsimp only); (try k_sweep); (try k_fold)))))) | (k_here; (with_reducible show wpAny _ _ (call (Value.ref 124) _) _ _ _); k_dflt (refine' c_compare (by k_asm) (by k_asm) (by k_asm) (by k_asm) (by k_asm) (by first | exact rfl | assumption) (by ktr_room) (by ktr_units) (by ((first | exact TupIn.of_news (by k_mem) | exact TupIn.of_K (by k_asm) (by k_is) | exact TupIn.mono (by assumption) (fun _ _ e => e) (by ((intro p9 h9; repeat (first | (with_reducible exact h9) | (with_reducible refine List.mem_cons_of_mem _ ?_))))) | exact TupIn.mono (by assumption) (Fr.keep (by assumption)) (by ((intro p9 h9; repeat (first | (with_reducible exact h9) | (with_reducible refine List.mem_cons_of_mem _ ?_)))))))) (by ((first | exact TupIn.of_news (by k_mem) | exact TupIn.of_K (by k_asm) (by k_is) | exact TupIn.mono (by assumption) (fun _ _ e => e) (by ((intro p9 h9; repeat (first | (with_reducible exact h9) | (with_reducible refine List.mem_cons_of_mem _ ?_))))) | exact TupIn.mono (by assumption) (Fr.keep (by assumption)) (by ((intro p9 h9; repeat (first | (with_reducible exact h9) | (with_reducible refine List.mem_cons_of_mem _ ?_)))))))) (Nat.le_trans (by bits_by_make) (by decide)) (Nat.le_trans (by bits_by_make) (by decide)) (Nat.le_trans (by bits_by_make) (by decide)) (Nat.le_trans (by bits_by_make) (by decide)) ?_; k_whole; (((unfold RetI; intro t9 h9 tk9 F9 N9; (try dsimp only); (try k_sweep); (try k_fold)))))) | (k_here; (with_reducible show wpAny _ _ (call (Value.ref 138) _) _ _ _); k_dflt (refine' c_rounded (by k_asm) (by k_asm) (by k_asm) (by k_asm) (by k_asm) (by first | exact rfl | assumption) (by ktr_room) (by ktr_units) (by ((first | exact TupIn.of_news (by k_mem) | exact TupIn.of_K (by k_asm) (by k_is) | exact TupIn.mono (by assumption) (fun _ _ e => e) (by ((intro p9 h9; repeat (first | (with_reducible exact h9) | (with_reducible refine List.mem_cons_of_mem _ ?_))))) | exact TupIn.mono (by assumption) (Fr.keep (by assumption)) (by ((intro p9 h9; repeat (first | (with_reducible exact h9) | (with_reducible refine List.mem_cons_of_mem _ ?_)))))))) (by ((first | assumption | omega | exact fracF_den (by first | assumption | omega)))) (Nat.le_trans (by bits_by_make) (by decide)) (Nat.le_trans (by bits_by_make) (by decide)) ?_; k_whole; (((unfold RetI; intro t9 h9 tk9 F9 N9; (try dsimp only); (try k_sweep); (try k_fold)))))) | (k_here; (with_reducible show wpAny _ _ (call (Value.ref 131) _) _ _ _); k_dflt (refine' c_floor (by k_asm) (by k_asm) (by k_asm) (by k_asm) (by k_asm) (by first | exact rfl | assumption) (by ktr_room) (by ktr_units) (by ((first | exact TupIn.of_news (by k_mem) | exact TupIn.of_K (by k_asm) (by k_is) | exact TupIn.mono (by assumption) (fun _ _ e => e) (by ((intro p9 h9; repeat (first | (with_reducible exact h9) | (with_reducible refine List.mem_cons_of_mem _ ?_))))) | exact TupIn.mono (by assumption) (Fr.keep (by assumption)) (by ((intro p9 h9; repeat (first | (with_reducible exact h9) | (with_reducible refine List.mem_cons_of_mem _ ?_)))))))) (by ((first | assumption | omega | exact fracF_den (by first | assumption | omega)))) (Nat.le_trans (by bits_by_make) (by decide)) ?_; k_whole; (((unfold RetI; intro t9 h9 tk9 F9 N9; (try dsimp only); (try k_sweep); (try k_fold)))))) | (k_here; (with_reducible show wpAny _ _ (call (Value.ref 117) _) _ _ _); k_dflt (refine' c_sign (by k_asm) (by k_asm) (by k_asm) (by k_asm) (by k_asm) (by first | exact rfl | assumption) (by ktr_room) (by ktr_units) (by ((first | exact TupIn.of_news (by k_mem) | exact TupIn.of_K (by k_asm) (by k_is) | exact TupIn.mono (by assumption) (fun _ _ e => e) (by ((intro p9 h9; repeat (first | (with_reducible exact h9) | (with_reducible refine List.mem_cons_of_mem _ ?_))))) | exact TupIn.mono (by assumption) (Fr.keep (by assumption)) (by ((intro p9 h9; repeat (first | (with_reducible exact h9) | (with_reducible refine List.mem_cons_of_mem _ ?_)))))))) ?_; k_whole; (((unfold RetI; intro t9 h9 tk9 F9 N9; (try dsimp only); (try k_sweep); (try k_fold)))))) | (k_here; (with_reducible show wpAny _ _ (call (Value.ref 110) _) _ _ _); k_dflt (refine' c_negated (by k_asm) (by k_asm) (by k_asm) (by k_asm) (by k_asm) (by first | exact rfl | assumption) (by ktr_room) (by ktr_units) (by ((first | exact TupIn.of_news (by k_mem) | exact TupIn.of_K (by k_asm) (by k_is) | exact TupIn.mono (by assumption) (fun _ _ e => e) (by ((intro p9 h9; repeat (first | (with_reducible exact h9) | (with_reducible refine List.mem_cons_of_mem _ ?_))))) | exact TupIn.mono (by assumption) (Fr.keep (by assumption)) (by ((intro p9 h9; repeat (first | (with_reducible exact h9) | (with_reducible refine List.mem_cons_of_mem _ ?_)))))))) ?_; k_whole; (((unfold RetT; intro D9 t9 u9 c9 h9 tk9 F9 N9 l9; (try simp only [AllLt, and_true] at l9); (try dsimp only); (try k_sweep); (try k_fold)))))) | (k_here; (with_reducible show wpAny _ _ (call (Value.ref 103) _) _ _ _); k_dflt (refine' c_divided (by k_asm) (by k_asm) (by k_asm) (by k_asm) (by k_asm) (by first | exact rfl | assumption) (by ktr_room) (by ktr_units) (by ((first | exact TupIn.of_news (by k_mem) | exact TupIn.of_K (by k_asm) (by k_is) | exact TupIn.mono (by assumption) (fun _ _ e => e) (by ((intro p9 h9; repeat (first | (with_reducible exact h9) | (with_reducible refine List.mem_cons_of_mem _ ?_))))) | exact TupIn.mono (by assumption) (Fr.keep (by assumption)) (by ((intro p9 h9; repeat (first | (with_reducible exact h9) | (with_reducible refine List.mem_cons_of_mem _ ?_)))))))) (by ((first | exact TupIn.of_news (by k_mem) | exact TupIn.of_K (by k_asm) (by k_is) | exact TupIn.mono (by assumption) (fun _ _ e => e) (by ((intro p9 h9; repeat (first | (with_reducible exact h9) | (with_reducible refine List.mem_cons_of_mem _ ?_))))) | exact TupIn.mono (by assumption) (Fr.keep (by assumption)) (by ((intro p9 h9; repeat (first | (with_reducible exact h9) | (with_reducible refine List.mem_cons_of_mem _ ?_)))))))) (by ((first | assumption | omega | exact fracF_den (by first | assumption | omega)))) (by ((first | assumption | omega | exact fracF_den (by first | assumption | omega)))) (Nat.le_trans (by bits_by_make) (by decide)) (Nat.le_trans (by bits_by_make) (by decide)) (Nat.le_trans (by bits_by_make) (by decide)) (Nat.le_trans (by bits_by_make) (by decide)) ?_; k_whole; (((unfold RetT; intro D9 t9 u9 c9 h9 tk9 F9 N9 l9; (try simp only [AllLt, and_true] at l9); (try dsimp only); (try k_sweep); (try k_fold)))))) | (k_here; (with_reducible show wpAny _ _ (call (Value.ref 96) _) _ _ _); k_dflt (refine' c_times (by k_asm) (by k_asm) (by k_asm) (by k_asm) (by k_asm) (by first | exact rfl | assumption) (by ktr_room) (by ktr_units) (by ((first | exact TupIn.of_news (by k_mem) | exact TupIn.of_K (by k_asm) (by k_is) | exact TupIn.mono (by assumption) (fun _ _ e => e) (by ((intro p9 h9; repeat (first | (with_reducible exact h9) | (with_reducible refine List.mem_cons_of_mem _ ?_))))) | exact TupIn.mono (by assumption) (Fr.keep (by assumption)) (by ((intro p9 h9; repeat (first | (with_reducible exact h9) | (with_reducible refine List.mem_cons_of_mem _ ?_)))))))) (by ((first | exact TupIn.of_news (by k_mem) | exact TupIn.of_K (by k_asm) (by k_is) | exact TupIn.mono (by assumption) (fun _ _ e => e) (by ((intro p9 h9; repeat (first | (with_reducible exact h9) | (with_reducible refine List.mem_cons_of_mem _ ?_))))) | exact TupIn.mono (by assumption) (Fr.keep (by assumption)) (by ((intro p9 h9; repeat (first | (with_reducible exact h9) | (with_reducible refine List.mem_cons_of_mem _ ?_)))))))) (by ((first | assumption | omega | exact fracF_den (by first | assumption | omega)))) (by ((first | assumption | omega | exact fracF_den (by first | assumption | omega)))) (Nat.le_trans (by bits_by_make) (by decide)) (Nat.le_trans (by bits_by_make) (by decide)) (Nat.le_trans (by bits_by_make) (by decide)) (Nat.le_trans (by bits_by_make) (by decide)) ?_; k_whole; (((unfold RetT; intro D9 t9 u9 c9 h9 tk9 F9 N9 l9; (try simp only [AllLt, and_true] at l9); (try dsimp only); (try k_sweep); (try k_fold)))))) | (k_here; (with_reducible show wpAny _ _ (call (Value.ref 89) _) _ _ _); k_dflt (refine' c_minus (by k_asm) (by k_asm) (by k_asm) (by k_asm) (by k_asm) (by first | exact rfl | assumption) (by ktr_room) (by ktr_units) (by ((first | exact TupIn.of_news (by k_mem) | exact TupIn.of_K (by k_asm) (by k_is) | exact TupIn.mono (by assumption) (fun _ _ e => e) (by ((intro p9 h9; repeat (first | (with_reducible exact h9) | (with_reducible refine List.mem_cons_of_mem _ ?_))))) | exact TupIn.mono (by assumption) (Fr.keep (by assumption)) (by ((intro p9 h9; repeat (first | (with_reducible exact h9) | (with_reducible refine List.mem_cons_of_mem _ ?_)))))))) (by ((first | exact TupIn.of_news (by k_mem) | exact TupIn.of_K (by k_asm) (by k_is) | exact TupIn.mono (by assumption) (fun _ _ e => e) (by ((intro p9 h9; repeat (first | (with_reducible exact h9) | (with_reducible refine List.mem_cons_of_mem _ ?_))))) | exact TupIn.mono (by assumption) (Fr.keep (by assumption)) (by ((intro p9 h9; repeat (first | (with_reducible exact h9) | (with_reducible refine List.mem_cons_of_mem _ ?_)))))))) (by ((first | assumption | omega | exact fracF_den (by first | assumption | omega)))) (by ((first | assumption | omega | exact fracF_den (by first | assumption | omega)))) (Nat.le_trans (by bits_by_make) (by decide)) (Nat.le_trans (by bits_by_make) (by decide)) (Nat.le_trans (by bits_by_make) (by decide)) (Nat.le_trans (by bits_by_make) (by decide)) ?_; k_whole; (((unfold RetT; intro D9 t9 u9 c9 h9 tk9 F9 N9 l9; (try simp only [AllLt, and_true] at l9); (try dsimp only); (try k_sweep); (try k_fold)))))) | (k_here; (with_reducible show wpAny _ _ (call (Value.ref 82) _) _ _ _); k_dflt (refine' c_frac (by k_asm) (by k_asm) (by k_asm) (by k_asm) (by k_asm) (by first | exact rfl | assumption) (by ktr_room) (by ktr_units) (by ((first | assumption | omega | exact fracF_den (by first | assumption | omega)))) (Nat.le_trans (by bits_by_make) (by decide)) ?_; k_whole; (((unfold RetT; intro D9 t9 u9 c9 h9 tk9 F9 N9 l9; (try simp only [AllLt, and_true] at l9); (try dsimp only); (try k_sweep); (try k_fold)))))) | (k_here; (with_reducible show wpAny _ _ (call (Value.ref 74) _) _ _ _); k_dflt (refine' c_gcd (by k_asm) (by k_asm) (by k_asm) (by k_asm) (by k_asm) (by first | exact rfl | assumption) (by ktr_room) (by ktr_units) (by ((first | assumption | omega | exact fracF_den (by first | assumption | omega)))) ?_; k_whole; (((intro t9 h9 tk9 p9 F9 N9; (try dsimp only); (try k_sweep); (try k_fold))))))) | (k_end; wrow_close) | walk1 | (dsimp only; walk1) | (leave1; walk_say "STEP leave1"; try dsimp only) | fail "no step"))
  all_goals (((refine' end_A (by with_reducible assumption) (by k_asm) (by k_asm) (by k_mem) (by k_mem) (by k_mem) (by ((intro p9 h9; repeat (first | (with_reducible exact h9) | (with_reducible refine List.mem_cons_of_mem _ ?_))))) (by (first | tbn_find | exact allLt_of (by assumption) | kcu_lt)) (by (first | tbn_find | exact allLt_of (by assumption) | kcu_lt)) (by (first | tbn_find | exact allLt_of (by assumption) | kcu_lt)) ?_ ?_ ?_ ?_)))
  all_goals first | rfl | rw [tell_zero]
theorem c_ansY {A1 : Addr} {a0 a1 : Int} {tn : Tok} (B : Below A₀ base outer h₀) (F : Fr h₀ L s.heap m) (X : (Mine.hd.heap_1 w.params).In h₀) (N : News h₀ L s.heap news) (T : Top p loose mean mg mb h₀) (hk : cs.kind = .function) (hd : dp + 11 < recursionLimit) (hu : un + 88 < cLine) (h1 : TupIn h₀ news A1 a0 a1) (g2 : 0 < a1) (g3 : (turnF a0 a1 (65536 * 65536)).1.1 ≠ 0) (s1 : intBits a0 ≤ 64) (s2 : intBits a1 ≤ 64)
    (ret : RetA h₀ L m news s Q (tellF (turnF a0 a1 (65536 * 65536))).1 (tellF (turnF a0 a1 (65536 * 65536))).2 0 1) :
    wpAny (model Challenge.rw_xm0723_01.row.prog w) (ktrTop dp un gd cn cs L a ccd cl outer) (call (.ref 322) [.str (Str.ofString "skewY") tn, .ref A1]) Q E s := by
  w_on
  refine wpAny_call ?_
  k_dflt (((refine' code_def ?k1 ?k2 ?k3 ?k4 ?k5 ?kA ?kF ?kK ?k6 ?k7 ?k8 ?k9 ?kB ?_ ?c2 ?c3 ?c4 ?c5; (case kA => exact rfl); (case kF => exact rfl); (case kK => assumption); (case k1 => k_asm); (case k2 => k_asm); (case k3 => k_asm); (case k4 => k_asm); (case k5 => k_asm); (case k6 => k_is); (case k7 => k_is); (case k8 => ktr_room); (case k9 => first | exact BindsTo.of_eq rfl | exact binds_K (by k_in) rfl (by k_is) rfl rfl rfl); (case c5 => decide); (case kB => exact locs rfl); (case c2 => exact rfl); (case c3 => exact rfl); (case c4 => exact rfl); k_whole; intro g' L' h' FG' F' N' B' X' T'; (try dsimp only); (try k_fold))))
  (rename Fr h₀ _ _ _ => FG)
  replace h1 := h1.mono FG.keep (fun _ e => e)
  (repeat' (first | (k_unfold; (try dsimp only)) | ((with_reducible show wpAny _ _ (call (Value.ref _) _) _ _ _); first | (k_here; (with_reducible show wpAny _ _ (call (Value.ref 198) _) _ _ _); k_dflt (refine' c_tan (by k_asm) (by k_asm) (by k_asm) (by k_asm) (by k_asm) (by first | exact rfl | assumption) (by ktr_room) (by ktr_units) (by ((first | exact TupIn.of_news (by k_mem) | exact TupIn.of_K (by k_asm) (by k_is) | exact TupIn.mono (by assumption) (fun _ _ e => e) (by ((intro p9 h9; repeat (first | (with_reducible exact h9) | (with_reducible refine List.mem_cons_of_mem _ ?_))))) | exact TupIn.mono (by assumption) (Fr.keep (by assumption)) (by ((intro p9 h9; repeat (first | (with_reducible exact h9) | (with_reducible refine List.mem_cons_of_mem _ ?_)))))))) (by ((first | assumption | omega | exact fracF_den (by first | assumption | omega)))) (by (first | assumption | exact tan_zero)) (Nat.le_trans (by bits_by_make) (by decide)) (Nat.le_trans (by bits_by_make) (by decide)) ?_; k_whole; (((unfold RetT; intro D9 t9 u9 c9 h9 tk9 F9 N9 l9; (try simp only [AllLt, and_true] at l9); (try dsimp only); (try k_sweep); (try k_fold)))))) | (k_here; (with_reducible show wpAny _ _ (call (Value.ref 182) _) _ _ _); k_dflt (refine' c_quarter (by k_asm) (by k_asm) (by k_asm) (by k_asm) (by k_asm) (by first | exact rfl | assumption) (by ktr_room) (by ktr_units) (by ((first | exact TupIn.of_news (by k_mem) | exact TupIn.of_K (by k_asm) (by k_is) | exact TupIn.mono (by assumption) (fun _ _ e => e) (by ((intro p9 h9; repeat (first | (with_reducible exact h9) | (with_reducible refine List.mem_cons_of_mem _ ?_))))) | exact TupIn.mono (by assumption) (Fr.keep (by assumption)) (by ((intro p9 h9; repeat (first | (with_reducible exact h9) | (with_reducible refine List.mem_cons_of_mem _ ?_)))))))) (by ((first | assumption | omega | exact fracF_den (by first | assumption | omega)))) (by ((first | assumption | omega | exact fracF_den (by first | assumption | omega)))) (by ((first | assumption | omega | exact fracF_den (by first | assumption | omega)))) (by ((first | assumption | omega | exact fracF_den (by first | assumption | omega)))) (Nat.le_trans (by bits_by_make) (by decide)) (Nat.le_trans (by bits_by_make) (by decide)) (Nat.le_trans (by bits_by_make) (by decide)) ?_; k_whole; (((unfold RetV; intro x9 y9 z9 v9 D9 C9 S9 c9 t9 u9 v9 w9 c8 c7 h9 tk9 e9 p8 p9 b6 b7 b8 b9 F9 N9 l9; (try simp only [AllLt, and_true] at l9); (try dsimp only); (try k_sweep); (try k_fold)))))) | (k_here; (with_reducible show wpAny _ _ (call (Value.ref 168) _) _ _ _); k_dflt (refine' c_small (by k_asm) (by k_asm) (by k_asm) (by k_asm) (by k_asm) (by first | exact rfl | assumption) (by ktr_room) (by ktr_units) (by ((first | exact TupIn.of_news (by k_mem) | exact TupIn.of_K (by k_asm) (by k_is) | exact TupIn.mono (by assumption) (fun _ _ e => e) (by ((intro p9 h9; repeat (first | (with_reducible exact h9) | (with_reducible refine List.mem_cons_of_mem _ ?_))))) | exact TupIn.mono (by assumption) (Fr.keep (by assumption)) (by ((intro p9 h9; repeat (first | (with_reducible exact h9) | (with_reducible refine List.mem_cons_of_mem _ ?_)))))))) (by ((first | assumption | omega | exact fracF_den (by first | assumption | omega)))) (by ((first | assumption | omega | exact fracF_den (by first | assumption | omega)))) (by ((first | assumption | omega | exact fracF_den (by first | assumption | omega)))) (by ((first | assumption | omega | exact fracF_den (by first | assumption | omega)))) (Nat.le_trans (by bits_by_make) (by decide)) (Nat.le_trans (by bits_by_make) (by decide)) (Nat.le_trans (by bits_by_make) (by decide)) ?_; k_whole; (((unfold RetV; intro x9 y9 z9 v9 D9 C9 S9 c9 t9 u9 v9 w9 c8 c7 h9 tk9 e9 p8 p9 b6 b7 b8 b9 F9 N9 l9; (try simp only [AllLt, and_true] at l9); (try dsimp only); (try k_sweep); (try k_fold)))))) | (k_here; (with_reducible show wpAny _ _ (call (Value.ref 161) _) _ _ _); k_dflt (refine' c_series (by k_asm) (by k_asm) (by k_asm) (by k_asm) (by k_asm) (by first | exact rfl | assumption) (by ktr_room) (by ktr_units) (by ((first | assumption | omega | exact fracF_den (by first | assumption | omega)))) (by ((first | assumption | omega | exact fracF_den (by first | assumption | omega)))) (by ((first | assumption | omega | exact fracF_den (by first | assumption | omega)))) (by ((first | assumption | omega | exact fracF_den (by first | assumption | omega)))) (by ((first | assumption | omega | exact fracF_den (by first | assumption | omega)))) (Nat.le_trans (by bits_by_make) (by decide)) (Nat.le_trans (by bits_by_make) (by decide)) (Nat.le_trans (by bits_by_make) (by decide)) ?_; k_whole; (((unfold RetI; intro t9 h9 tk9 F9 N9; (try dsimp only); (try k_sweep); (try k_fold)))))) | (k_here; (with_reducible show wpAny _ _ (call (Value.ref 175) _) _ _ _); k_dflt (refine' c_near (by k_asm) (by k_asm) (by k_asm) (by k_asm) (by k_asm) (by first | exact rfl | assumption) (by ktr_room) (by ktr_units) (by ((first | assumption | omega | exact fracF_den (by first | assumption | omega)))) (by ((first | assumption | omega | exact fracF_den (by first | assumption | omega)))) (Nat.le_trans (by bits_by_make) (by decide)) (Nat.le_trans (by bits_by_make) (by decide)) (Nat.le_trans (by bits_by_make) (by decide)) ?_; k_whole; (((unfold RetT; intro D9 t9 u9 c9 h9 tk9 F9 N9 l9; (try simp only [AllLt, and_true] at l9); (try dsimp only); (try k_sweep); (try k_fold)))))) | (k_here; (with_reducible show wpAny _ _ (call (Value.ref 154) _) _ _ _); k_dflt (refine' c_rad (by k_asm) (by k_asm) (by k_asm) (by k_asm) (by k_asm) (by first | exact rfl | assumption) (by ktr_room) (by ktr_units) (by ((first | exact TupIn.of_news (by k_mem) | exact TupIn.of_K (by k_asm) (by k_is) | exact TupIn.mono (by assumption) (fun _ _ e => e) (by ((intro p9 h9; repeat (first | (with_reducible exact h9) | (with_reducible refine List.mem_cons_of_mem _ ?_))))) | exact TupIn.mono (by assumption) (Fr.keep (by assumption)) (by ((intro p9 h9; repeat (first | (with_reducible exact h9) | (with_reducible refine List.mem_cons_of_mem _ ?_)))))))) (by ((first | assumption | omega | exact fracF_den (by first | assumption | omega)))) (Nat.le_trans (by bits_by_make) (by decide)) (Nat.le_trans (by bits_by_make) (by decide)) (Nat.le_trans (by bits_by_make) (by decide)) ?_; k_whole; (((unfold RetI; intro t9 h9 tk9 F9 N9; (try dsimp only); (try k_sweep); (try k_fold)))))) | (k_here; (with_reducible show wpAny _ _ (call (Value.ref 147) _) _ _ _); k_dflt (refine' c_want (by k_asm) (by k_asm) (by k_asm) (by k_asm) (by k_asm) (by first | exact rfl | assumption) (by ktr_room) (by ktr_units) (by ((first | assumption | omega | exact fracF_den (by first | assumption | omega)))) (by ((first | assumption | omega | exact fracF_den (by first | assumption | omega)))) ?_; k_whole; (((unfold RetN; intro h9 tk9 F9 N9; (try dsimp only); (try k_sweep); (try k_fold)))))) | (k_here; (with_reducible show wpAny _ _ (call (Value.ref 124) _) _ _ _); k_dflt (refine' c_compare (by k_asm) (by k_asm) (by k_asm) (by k_asm) (by k_asm) (by first | exact rfl | assumption) (by ktr_room) (by ktr_units) (by ((first | exact TupIn.of_news (by k_mem) | exact TupIn.of_K (by k_asm) (by k_is) | exact TupIn.mono (by assumption) (fun _ _ e => e) (by ((intro p9 h9; repeat (first | (with_reducible exact h9) | (with_reducible refine List.mem_cons_of_mem _ ?_))))) | exact TupIn.mono (by assumption) (Fr.keep (by assumption)) (by ((intro p9 h9; repeat (first | (with_reducible exact h9) | (with_reducible refine List.mem_cons_of_mem _ ?_)))))))) (by ((first | exact TupIn.of_news (by k_mem) | exact TupIn.of_K (by k_asm) (by k_is) | exact TupIn.mono (by assumption) (fun _ _ e => e) (by ((intro p9 h9; repeat (first | (with_reducible exact h9) | (with_reducible refine List.mem_cons_of_mem _ ?_))))) | exact TupIn.mono (by assumption) (Fr.keep (by assumption)) (by ((intro p9 h9; repeat (first | (with_reducible exact h9) | (with_reducible refine List.mem_cons_of_mem _ ?_)))))))) (Nat.le_trans (by bits_by_make) (by decide)) (Nat.le_trans (by bits_by_make) (by decide)) (Nat.le_trans (by bits_by_make) (by decide)) (Nat.le_trans (by bits_by_make) (by decide)) ?_; k_whole; (((unfold RetI; intro t9 h9 tk9 F9 N9; (try dsimp only); (try k_sweep); (try k_fold)))))) | (k_here; (with_reducible show wpAny _ _ (call (Value.ref 138) _) _ _ _); k_dflt (refine' c_rounded (by k_asm) (by k_asm) (by k_asm) (by k_asm) (by k_asm) (by first | exact rfl | assumption) (by ktr_room) (by ktr_units) (by ((first | exact TupIn.of_news (by k_mem) | exact TupIn.of_K (by k_asm) (by k_is) | exact TupIn.mono (by assumption) (fun _ _ e => e) (by ((intro p9 h9; repeat (first | (with_reducible exact h9) | (with_reducible refine List.mem_cons_of_mem _ ?_))))) | exact TupIn.mono (by assumption) (Fr.keep (by assumption)) (by ((intro p9 h9; repeat (first | (with_reducible exact h9) | (with_reducible refine List.mem_cons_of_mem _ ?_)))))))) (by ((first | assumption | omega | exact fracF_den (by first | assumption | omega)))) (Nat.le_trans (by bits_by_make) (by decide)) (Nat.le_trans (by bits_by_make) (by decide)) ?_; k_whole; (((unfold RetI; intro t9 h9 tk9 F9 N9; (try dsimp only); (try k_sweep); (try k_fold)))))) | (k_here; (with_reducible show wpAny _ _ (call (Value.ref 131) _) _ _ _); k_dflt (refine' c_floor (by k_asm) (by k_asm) (by k_asm) (by k_asm) (by k_asm) (by first | exact rfl | assumption) (by ktr_room) (by ktr_units) (by ((first | exact TupIn.of_news (by k_mem) | exact TupIn.of_K (by k_asm) (by k_is) | exact TupIn.mono (by assumption) (fun _ _ e => e) (by ((intro p9 h9; repeat (first | (with_reducible exact h9) | (with_reducible refine List.mem_cons_of_mem _ ?_))))) | exact TupIn.mono (by assumption) (Fr.keep (by assumption)) (by ((intro p9 h9; repeat (first | (with_reducible exact h9) | (with_reducible refine List.mem_cons_of_mem _ ?_)))))))) (by ((first | assumption | omega | exact fracF_den (by first | assumption | omega)))) (Nat.le_trans (by bits_by_make) (by decide)) ?_; k_whole; (((unfold RetI; intro t9 h9 tk9 F9 N9; (try dsimp only); (try k_sweep); (try k_fold)))))) | (k_here; (with_reducible show wpAny _ _ (call (Value.ref 117) _) _ _ _); k_dflt (refine' c_sign (by k_asm) (by k_asm) (by k_asm) (by k_asm) (by k_asm) (by first | exact rfl | assumption) (by ktr_room) (by ktr_units) (by ((first | exact TupIn.of_news (by k_mem) | exact TupIn.of_K (by k_asm) (by k_is) | exact TupIn.mono (by assumption) (fun _ _ e => e) (by ((intro p9 h9; repeat (first | (with_reducible exact h9) | (with_reducible refine List.mem_cons_of_mem _ ?_))))) | exact TupIn.mono (by assumption) (Fr.keep (by assumption)) (by ((intro p9 h9; repeat (first | (with_reducible exact h9) | (with_reducible refine List.mem_cons_of_mem _ ?_)))))))) ?_; k_whole; (((unfold RetI; intro t9 h9 tk9 F9 N9; (try dsimp only); (try k_sweep); (try k_fold)))))) | (k_here; (with_reducible show wpAny _ _ (call (Value.ref 110) _) _ _ _); k_dflt (refine' c_negated (by k_asm) (by k_asm) (by k_asm) (by k_asm) (by k_asm) (by first | exact rfl | assumption) (by ktr_room) (by ktr_units) (by ((first | exact TupIn.of_news (by k_mem) | exact TupIn.of_K (by k_asm) (by k_is) | exact TupIn.mono (by assumption) (fun _ _ e => e) (by ((intro p9 h9; repeat (first | (with_reducible exact h9) | (with_reducible refine List.mem_cons_of_mem _ ?_))))) | exact TupIn.mono (by assumption) (Fr.keep (by assumption)) (by ((intro p9 h9; repeat (first | (with_reducible exact h9) | (with_reducible refine List.mem_cons_of_mem _ ?_)))))))) ?_; k_whole; (((unfold RetT; intro D9 t9 u9 c9 h9 tk9 F9 N9 l9; (try simp only [AllLt, and_true] at l9); (try dsimp only); (try k_sweep); (try k_fold)))))) | (k_here; (with_reducible show wpAny _ _ (call (Value.ref 103) _) _ _ _); k_dflt (refine' c_divided (by k_asm) (by k_asm) (by k_asm) (by k_asm) (by k_asm) (by first | exact rfl | assumption) (by ktr_room) (by ktr_units) (by ((first | exact TupIn.of_news (by k_mem) | exact TupIn.of_K (by k_asm) (by k_is) | exact TupIn.mono (by assumption) (fun _ _ e => e) (by ((intro p9 h9; repeat (first | (with_reducible exact h9) | (with_reducible refine List.mem_cons_of_mem _ ?_))))) | exact TupIn.mono (by assumption) (Fr.keep (by assumption)) (by ((intro p9 h9; repeat (first | (with_reducible exact h9) | (with_reducible refine List.mem_cons_of_mem _ ?_)))))))) (by ((first | exact TupIn.of_news (by k_mem) | exact TupIn.of_K (by k_asm) (by k_is) | exact TupIn.mono (by assumption) (fun _ _ e => e) (by ((intro p9 h9; repeat (first | (with_reducible exact h9) | (with_reducible refine List.mem_cons_of_mem _ ?_))))) | exact TupIn.mono (by assumption) (Fr.keep (by assumption)) (by ((intro p9 h9; repeat (first | (with_reducible exact h9) | (with_reducible refine List.mem_cons_of_mem _ ?_)))))))) (by ((first | assumption | omega | exact fracF_den (by first | assumption | omega)))) (by ((first | assumption | omega | exact fracF_den (by first | assumption | omega)))) (Nat.le_trans (by bits_by_make) (by decide)) (Nat.le_trans (by bits_by_make) (by decide)) (Nat.le_trans (by bits_by_make) (by decide)) (Nat.le_trans (by bits_by_make) (by decide)) ?_; k_whole; (((unfold RetT; intro D9 t9 u9 c9 h9 tk9 F9 N9 l9; (try simp only [AllLt, and_true] at l9); (try dsimp only); (try k_sweep); (try k_fold)))))) | (k_here; (with_reducible show wpAny _ _ (call (Value.ref 96) _) _ _ _); k_dflt (refine' c_times (by k_asm) (by k_asm) (by k_asm) (by k_asm) (by k_asm) (by first | exact rfl | assumption) (by ktr_room) (by ktr_units) (by ((first | exact TupIn.of_news (by k_mem) | exact TupIn.of_K (by k_asm) (by k_is) | exact TupIn.mono (by assumption) (fun _ _ e => e) (by ((intro p9 h9; repeat (first | (with_reducible exact h9) | (with_reducible refine List.mem_cons_of_mem _ ?_))))) | exact TupIn.mono (by assumption) (Fr.keep (by assumption)) (by ((intro p9 h9; repeat (first | (with_reducible exact h9) | (with_reducible refine List.mem_cons_of_mem _ ?_)))))))) (by ((first | exact TupIn.of_news (by k_mem) | exact TupIn.of_K (by k_asm) (by k_is) | exact TupIn.mono (by assumption) (fun _ _ e => e) (by ((intro p9 h9; repeat (first | (with_reducible exact h9) | (with_reducible refine List.mem_cons_of_mem _ ?_))))) | exact TupIn.mono (by assumption) (Fr.keep (by assumption)) (by ((intro p9 h9; repeat (first | (with_reducible exact h9) | (with_reducible refine List.mem_cons_of_mem _ ?_)))))))) (by ((first | assumption | omega | exact fracF_den (by first | assumption | omega)))) (by ((first | assumption | omega | exact fracF_den (by first | assumption | omega)))) (Nat.le_trans (by bits_by_make) (by decide)) (Nat.le_trans (by bits_by_make) (by decide)) (Nat.le_trans (by bits_by_make) (by decide)) (Nat.le_trans (by bits_by_make) (by decide)) ?_; k_whole; (((unfold RetT; intro D9 t9 u9 c9 h9 tk9 F9 N9 l9; (try simp only [AllLt, and_true] at l9); (try dsimp only); (try k_sweep); (try k_fold)))))) | (k_here; (with_reducible show wpAny _ _ (call (Value.ref 89) _) _ _ _); k_dflt (refine' c_minus (by k_asm) (by k_asm) (by k_asm) (by k_asm) (by k_asm) (by first | exact rfl | assumption) (by ktr_room) (by ktr_units) (by ((first | exact TupIn.of_news (by k_mem) | exact TupIn.of_K (by k_asm) (by k_is) | exact TupIn.mono (by assumption) (fun _ _ e => e) (by ((intro p9 h9; repeat (first | (with_reducible exact h9) | (with_reducible refine List.mem_cons_of_mem _ ?_))))) | exact TupIn.mono (by assumption) (Fr.keep (by assumption)) (by ((intro p9 h9; repeat (first | (with_reducible exact h9) | (with_reducible refine List.mem_cons_of_mem _ ?_)))))))) (by ((first | exact TupIn.of_news (by k_mem) | exact TupIn.of_K (by k_asm) (by k_is) | exact TupIn.mono (by assumption) (fun _ _ e => e) (by ((intro p9 h9; repeat (first | (with_reducible exact h9) | (with_reducible refine List.mem_cons_of_mem _ ?_))))) | exact TupIn.mono (by assumption) (Fr.keep (by assumption)) (by ((intro p9 h9; repeat (first | (with_reducible exact h9) | (with_reducible refine List.mem_cons_of_mem _ ?_)))))))) (by ((first | assumption | omega | exact fracF_den (by first | assumption | omega)))) (by ((first | assumption | omega | exact fracF_den (by first | assumption | omega)))) (Nat.le_trans (by bits_by_make) (by decide)) (Nat.le_trans (by bits_by_make) (by decide)) (Nat.le_trans (by bits_by_make) (by decide)) (Nat.le_trans (by bits_by_make) (by decide)) ?_; k_whole; (((unfold RetT; intro D9 t9 u9 c9 h9 tk9 F9 N9 l9; (try simp only [AllLt, and_true] at l9); (try dsimp only); (try k_sweep); (try k_fold)))))) | (k_here; (with_reducible show wpAny _ _ (call (Value.ref 82) _) _ _ _); k_dflt (refine' c_frac (by k_asm) (by k_asm) (by k_asm) (by k_asm) (by k_asm) (by first | exact rfl | assumption) (by ktr_room) (by ktr_units) (by ((first | assumption | omega | exact fracF_den (by first | assumption | omega)))) (Nat.le_trans (by bits_by_make) (by decide)) ?_; k_whole; (((unfold RetT; intro D9 t9 u9 c9 h9 tk9 F9 N9 l9; (try simp only [AllLt, and_true] at l9); (try dsimp only); (try k_sweep); (try k_fold)))))) | (k_here; (with_reducible show wpAny _ _ (call (Value.ref 74) _) _ _ _); k_dflt (refine' c_gcd (by k_asm) (by k_asm) (by k_asm) (by k_asm) (by k_asm) (by first | exact rfl | assumption) (by ktr_room) (by ktr_units) (by ((first | assumption | omega | exact fracF_den (by first | assumption | omega)))) ?_; k_whole; (((intro t9 h9 tk9 p9 F9 N9; (try dsimp only); (try k_sweep); (try k_fold))))))) | (k_end; wrow_close) | walk1 | (dsimp only; walk1) | (leave1; walk_say "STEP leave1"; try dsimp only) | fail "no step"))
  all_goals (((refine' end_A (by with_reducible assumption) (by k_asm) (by k_asm) (by k_mem) (by k_mem) (by k_mem) (by ((intro p9 h9; repeat (first | (with_reducible exact h9) | (with_reducible refine List.mem_cons_of_mem _ ?_))))) (by (first | tbn_find | exact allLt_of (by assumption) | kcu_lt)) (by (first | tbn_find | exact allLt_of (by assumption) | kcu_lt)) (by (first | tbn_find | exact allLt_of (by assumption) | kcu_lt)) ?_ ?_ ?_ ?_)))
  all_goals first | rfl | rw [tell_zero]
end
end
section
local macro_rules | `(tactic| walk_at "none") => `(tactic| skip)
section
variable {w : World} {p : Program} {loose : List Str} {mean : ExcName → Option Value} {mg mb : Str → Option Value} {dp un : Nat} {gd : Option (List Code)} {cn : Str} {cs : Scope} {a : Addr} {ccd : Value} {cl : List (Str × Addr)} {outer : List Env} {A₀ : Around} {base h₀ : Heap} {L : Addr} {m : Str → Option Value} {news : List (Addr × Obj)} {s : Shared} {Q E : Value → Shared → Prop}
local macro_rules | `(tactic| walk_at "exec Raise some none") => `(tactic| (k_here; k_dflt (refine' x_Raise (K := Mine.hd.heap_1 w.params) (C := 51) ?kq ?kh ?_; (case kq => kts_isx); (case kh => exact rfl); k_whole)))
theorem c_tanF {A1 : Addr} {a0 a1 : Int} (B : Below A₀ base outer h₀) (F : Fr h₀ L s.heap m) (X : (Mine.hd.heap_1 w.params).In h₀) (N : News h₀ L s.heap news) (T : Top p loose mean mg mb h₀) (hk : cs.kind = .function) (hd : dp + 7 < recursionLimit) (hu : un + 56 < cLine) (h1 : TupIn h₀ news A1 a0 a1) (g2 : 0 < a1) (g3 : (turnF a0 a1 (65536 * 65536)).1.1 = 0) (g4 : (turnF a0 a1 10000000000000000000000000000000000000000).1.1 = 0) (s1 : intBits a0 ≤ 64) (s2 : intBits a1 ≤ 64)
    (ret : RetE base 51 h₀ L m (envX cn cs L a ccd cl :: outer) news s E msgR) :
    wpAny (model Challenge.rw_xm0723_01.row.prog w) (ktrTop dp un gd cn cs L a ccd cl outer) (call (.ref 198) [.ref A1]) Q E s := by
  w_on
  refine wpAny_call ?_
  k_dflt (((refine' code_def ?k1 ?k2 ?k3 ?k4 ?k5 ?kA ?kF ?kK ?k6 ?k7 ?k8 ?k9 ?kB ?_ ?c2 ?c3 ?c4 ?c5; (case kA => exact rfl); (case kF => exact rfl); (case kK => assumption); (case k1 => k_asm); (case k2 => k_asm); (case k3 => k_asm); (case k4 => k_asm); (case k5 => k_asm); (case k6 => k_is); (case k7 => k_is); (case k8 => ktr_room); (case k9 => first | exact BindsTo.of_eq rfl | exact binds_K (by k_in) rfl (by k_is) rfl rfl rfl); (case c5 => decide); (case kB => exact locs rfl); (case c2 => exact rfl); (case c3 => exact rfl); (case c4 => exact rfl); k_whole; intro g' L' h' FG' F' N' B' X' T'; (try dsimp only); (try k_fold))))
  (rename Fr h₀ _ _ _ => FG)
  replace h1 := h1.mono FG.keep (fun _ e => e)
  (repeat' (first | (k_unfold; (try dsimp only)) | ((with_reducible show wpAny _ _ (call (Value.ref _) _) _ _ _); first | (k_here; (with_reducible show wpAny _ _ (call (Value.ref 103) _) _ _ _); exfalso; contradiction) | (k_here; (with_reducible show wpAny _ _ (call (Value.ref 190) _) _ _ _); (((k_here; (with_reducible show wpAny _ _ (call (Value.ref 190) _) _ _ _); k_dflt (refine' c_turn (by k_asm) (by k_asm) (by k_asm) (by k_asm) (by k_asm) (by first | exact rfl | assumption) (by ktr_room) (by ktr_units) (by ((first | exact TupIn.of_news (by k_mem) | exact TupIn.of_K (by k_asm) (by k_is) | exact TupIn.mono (by assumption) (fun _ _ e => e) (by ((intro p9 h9; repeat (first | (with_reducible exact h9) | (with_reducible refine List.mem_cons_of_mem _ ?_))))) | exact TupIn.mono (by assumption) (Fr.keep (by assumption)) (by ((intro p9 h9; repeat (first | (with_reducible exact h9) | (with_reducible refine List.mem_cons_of_mem _ ?_)))))))) (by ((first | assumption | omega | exact fracF_den (by first | assumption | omega)))) (by ((first | assumption | omega | exact fracF_den (by first | assumption | omega)))) (by ((first | assumption | omega | exact fracF_den (by first | assumption | omega)))) (Nat.le_trans (by bits_by_make) (by decide)) (Nat.le_trans (by bits_by_make) (by decide)) ?_; k_whole; (((unfold RetV; intro x9 y9 z9 v9 D9 C9 S9 c9 t9 u9 v9 w9 c8 c7 h9 tk9 e9 p8 p9 b6 b7 b8 b9 F9 N9 l9; (try simp only [AllLt, and_true] at l9); (try dsimp only); (try k_sweep); (try k_fold))))))); ((have n9 := turn_zero (by with_reducible assumption) (by with_reducible assumption))))) | (k_here; (with_reducible show wpAny _ _ (call (Value.ref 63) _) _ _ _); k_dflt (refine' c_mkS (by k_asm) (by k_asm) (by k_asm) (by k_asm) (by k_asm) (by first | exact rfl | assumption) (by ktr_room) (by ktr_units)  ?_; k_whole; (((intro e9 x9 t9 hs9 k9 h9 tk9 F9 N9 l8 l9 l7; (try simp only [AllLt, and_true] at l8); (try dsimp only); (try k_sweep); (try k_fold)))))) | (k_here; (with_reducible show wpAny _ _ (call (Value.ref 51) _) _ _ _); k_dflt (refine' c_mkN (by k_asm) (by k_asm) (by k_asm) (by k_asm) (by k_asm) (by first | exact rfl | assumption) (by ktr_room) (by ktr_units)  ?_; k_whole; (((intro e9 x9 t9 hs9 k9 h9 tk9 F9 N9 l8 l9 l7; (try simp only [AllLt, and_true] at l8); (try dsimp only); (try k_sweep); (try k_fold)))))) | (k_here; (with_reducible show wpAny _ _ (call (Value.ref 182) _) _ _ _); k_dflt (refine' c_quarter (by k_asm) (by k_asm) (by k_asm) (by k_asm) (by k_asm) (by first | exact rfl | assumption) (by ktr_room) (by ktr_units) (by ((first | exact TupIn.of_news (by k_mem) | exact TupIn.of_K (by k_asm) (by k_is) | exact TupIn.mono (by assumption) (fun _ _ e => e) (by ((intro p9 h9; repeat (first | (with_reducible exact h9) | (with_reducible refine List.mem_cons_of_mem _ ?_))))) | exact TupIn.mono (by assumption) (Fr.keep (by assumption)) (by ((intro p9 h9; repeat (first | (with_reducible exact h9) | (with_reducible refine List.mem_cons_of_mem _ ?_)))))))) (by ((first | assumption | omega | exact fracF_den (by first | assumption | omega)))) (by ((first | assumption | omega | exact fracF_den (by first | assumption | omega)))) (by ((first | assumption | omega | exact fracF_den (by first | assumption | omega)))) (by ((first | assumption | omega | exact fracF_den (by first | assumption | omega)))) (Nat.le_trans (by bits_by_make) (by decide)) (Nat.le_trans (by bits_by_make) (by decide)) (Nat.le_trans (by bits_by_make) (by decide)) ?_; k_whole; (((unfold RetV; intro x9 y9 z9 v9 D9 C9 S9 c9 t9 u9 v9 w9 c8 c7 h9 tk9 e9 p8 p9 b6 b7 b8 b9 F9 N9 l9; (try simp only [AllLt, and_true] at l9); (try dsimp only); (try k_sweep); (try k_fold)))))) | (k_here; (with_reducible show wpAny _ _ (call (Value.ref 168) _) _ _ _); k_dflt (refine' c_small (by k_asm) (by k_asm) (by k_asm) (by k_asm) (by k_asm) (by first | exact rfl | assumption) (by ktr_room) (by ktr_units) (by ((first | exact TupIn.of_news (by k_mem) | exact TupIn.of_K (by k_asm) (by k_is) | exact TupIn.mono (by assumption) (fun _ _ e => e) (by ((intro p9 h9; repeat (first | (with_reducible exact h9) | (with_reducible refine List.mem_cons_of_mem _ ?_))))) | exact TupIn.mono (by assumption) (Fr.keep (by assumption)) (by ((intro p9 h9; repeat (first | (with_reducible exact h9) | (with_reducible refine List.mem_cons_of_mem _ ?_)))))))) (by ((first | assumption | omega | exact fracF_den (by first | assumption | omega)))) (by ((first | assumption | omega | exact fracF_den (by first | assumption | omega)))) (by ((first | assumption | omega | exact fracF_den (by first | assumption | omega)))) (by ((first | assumption | omega | exact fracF_den (by first | assumption | omega)))) (Nat.le_trans (by bits_by_make) (by decide)) (Nat.le_trans (by bits_by_make) (by decide)) (Nat.le_trans (by bits_by_make) (by decide)) ?_; k_whole; (((unfold RetV; intro x9 y9 z9 v9 D9 C9 S9 c9 t9 u9 v9 w9 c8 c7 h9 tk9 e9 p8 p9 b6 b7 b8 b9 F9 N9 l9; (try simp only [AllLt, and_true] at l9); (try dsimp only); (try k_sweep); (try k_fold)))))) | (k_here; (with_reducible show wpAny _ _ (call (Value.ref 161) _) _ _ _); k_dflt (refine' c_series (by k_asm) (by k_asm) (by k_asm) (by k_asm) (by k_asm) (by first | exact rfl | assumption) (by ktr_room) (by ktr_units) (by ((first | assumption | omega | exact fracF_den (by first | assumption | omega)))) (by ((first | assumption | omega | exact fracF_den (by first | assumption | omega)))) (by ((first | assumption | omega | exact fracF_den (by first | assumption | omega)))) (by ((first | assumption | omega | exact fracF_den (by first | assumption | omega)))) (by ((first | assumption | omega | exact fracF_den (by first | assumption | omega)))) (Nat.le_trans (by bits_by_make) (by decide)) (Nat.le_trans (by bits_by_make) (by decide)) (Nat.le_trans (by bits_by_make) (by decide)) ?_; k_whole; (((unfold RetI; intro t9 h9 tk9 F9 N9; (try dsimp only); (try k_sweep); (try k_fold)))))) | (k_here; (with_reducible show wpAny _ _ (call (Value.ref 175) _) _ _ _); k_dflt (refine' c_near (by k_asm) (by k_asm) (by k_asm) (by k_asm) (by k_asm) (by first | exact rfl | assumption) (by ktr_room) (by ktr_units) (by ((first | assumption | omega | exact fracF_den (by first | assumption | omega)))) (by ((first | assumption | omega | exact fracF_den (by first | assumption | omega)))) (Nat.le_trans (by bits_by_make) (by decide)) (Nat.le_trans (by bits_by_make) (by decide)) (Nat.le_trans (by bits_by_make) (by decide)) ?_; k_whole; (((unfold RetT; intro D9 t9 u9 c9 h9 tk9 F9 N9 l9; (try simp only [AllLt, and_true] at l9); (try dsimp only); (try k_sweep); (try k_fold)))))) | (k_here; (with_reducible show wpAny _ _ (call (Value.ref 154) _) _ _ _); k_dflt (refine' c_rad (by k_asm) (by k_asm) (by k_asm) (by k_asm) (by k_asm) (by first | exact rfl | assumption) (by ktr_room) (by ktr_units) (by ((first | exact TupIn.of_news (by k_mem) | exact TupIn.of_K (by k_asm) (by k_is) | exact TupIn.mono (by assumption) (fun _ _ e => e) (by ((intro p9 h9; repeat (first | (with_reducible exact h9) | (with_reducible refine List.mem_cons_of_mem _ ?_))))) | exact TupIn.mono (by assumption) (Fr.keep (by assumption)) (by ((intro p9 h9; repeat (first | (with_reducible exact h9) | (with_reducible refine List.mem_cons_of_mem _ ?_)))))))) (by ((first | assumption | omega | exact fracF_den (by first | assumption | omega)))) (Nat.le_trans (by bits_by_make) (by decide)) (Nat.le_trans (by bits_by_make) (by decide)) (Nat.le_trans (by bits_by_make) (by decide)) ?_; k_whole; (((unfold RetI; intro t9 h9 tk9 F9 N9; (try dsimp only); (try k_sweep); (try k_fold)))))) | (k_here; (with_reducible show wpAny _ _ (call (Value.ref 147) _) _ _ _); k_dflt (refine' c_want (by k_asm) (by k_asm) (by k_asm) (by k_asm) (by k_asm) (by first | exact rfl | assumption) (by ktr_room) (by ktr_units) (by ((first | assumption | omega | exact fracF_den (by first | assumption | omega)))) (by ((first | assumption | omega | exact fracF_den (by first | assumption | omega)))) ?_; k_whole; (((unfold RetN; intro h9 tk9 F9 N9; (try dsimp only); (try k_sweep); (try k_fold)))))) | (k_here; (with_reducible show wpAny _ _ (call (Value.ref 124) _) _ _ _); k_dflt (refine' c_compare (by k_asm) (by k_asm) (by k_asm) (by k_asm) (by k_asm) (by first | exact rfl | assumption) (by ktr_room) (by ktr_units) (by ((first | exact TupIn.of_news (by k_mem) | exact TupIn.of_K (by k_asm) (by k_is) | exact TupIn.mono (by assumption) (fun _ _ e => e) (by ((intro p9 h9; repeat (first | (with_reducible exact h9) | (with_reducible refine List.mem_cons_of_mem _ ?_))))) | exact TupIn.mono (by assumption) (Fr.keep (by assumption)) (by ((intro p9 h9; repeat (first | (with_reducible exact h9) | (with_reducible refine List.mem_cons_of_mem _ ?_)))))))) (by ((first | exact TupIn.of_news (by k_mem) | exact TupIn.of_K (by k_asm) (by k_is) | exact TupIn.mono (by assumption) (fun _ _ e => e) (by ((intro p9 h9; repeat (first | (with_reducible exact h9) | (with_reducible refine List.mem_cons_of_mem _ ?_))))) | exact TupIn.mono (by assumption) (Fr.keep (by assumption)) (by ((intro p9 h9; repeat (first | (with_reducible exact h9) | (with_reducible refine List.mem_cons_of_mem _ ?_)))))))) (Nat.le_trans (by bits_by_make) (by decide)) (Nat.le_trans (by bits_by_make) (by decide)) (Nat.le_trans (by bits_by_make) (by decide)) (Nat.le_trans (by bits_by_make) (by decide)) ?_; k_whole; (((unfold RetI; intro t9 h9 tk9 F9 N9; (try dsimp only); (try k_sweep); (try k_fold)))))) | (k_here; (with_reducible show wpAny _ _ (call (Value.ref 138) _) _ _ _); k_dflt (refine' c_rounded (by k_asm) (by k_asm) (by k_asm) (by k_asm) (by k_asm) (by first | exact rfl | assumption) (by ktr_room) (by ktr_units) (by ((first | exact TupIn.of_news (by k_mem) | exact TupIn.of_K (by k_asm) (by k_is) | exact TupIn.mono (by assumption) (fun _ _ e => e) (by ((intro p9 h9; repeat (first | (with_reducible exact h9) | (with_reducible refine List.mem_cons_of_mem _ ?_))))) | exact TupIn.mono (by assumption) (Fr.keep (by assumption)) (by ((intro p9 h9; repeat (first | (with_reducible exact h9) | (with_reducible refine List.mem_cons_of_mem _ ?_)))))))) (by ((first | assumption | omega | exact fracF_den (by first | assumption | omega)))) (Nat.le_trans (by bits_by_make) (by decide)) (Nat.le_trans (by bits_by_make) (by decide)) ?_; k_whole; (((unfold RetI; intro t9 h9 tk9 F9 N9; (try dsimp only); (try k_sweep); (try k_fold)))))) | (k_here; (with_reducible show wpAny _ _ (call (Value.ref 131) _) _ _ _); k_dflt (refine' c_floor (by k_asm) (by k_asm) (by k_asm) (by k_asm) (by k_asm) (by first | exact rfl | assumption) (by ktr_room) (by ktr_units) (by ((first | exact TupIn.of_news (by k_mem) | exact TupIn.of_K (by k_asm) (by k_is) | exact TupIn.mono (by assumption) (fun _ _ e => e) (by ((intro p9 h9; repeat (first | (with_reducible exact h9) | (with_reducible refine List.mem_cons_of_mem _ ?_))))) | exact TupIn.mono (by assumption) (Fr.keep (by assumption)) (by ((intro p9 h9; repeat (first | (with_reducible exact h9) | (with_reducible refine List.mem_cons_of_mem _ ?_)))))))) (by ((first | assumption | omega | exact fracF_den (by first | assumption | omega)))) (Nat.le_trans (by bits_by_make) (by decide)) ?_; k_whole; (((unfold RetI; intro t9 h9 tk9 F9 N9; (try dsimp only); (try k_sweep); (try k_fold)))))) | (k_here; (with_reducible show wpAny _ _ (call (Value.ref 117) _) _ _ _); k_dflt (refine' c_sign (by k_asm) (by k_asm) (by k_asm) (by k_asm) (by k_asm) (by first | exact rfl | assumption) (by ktr_room) (by ktr_units) (by ((first | exact TupIn.of_news (by k_mem) | exact TupIn.of_K (by k_asm) (by k_is) | exact TupIn.mono (by assumption) (fun _ _ e => e) (by ((intro p9 h9; repeat (first | (with_reducible exact h9) | (with_reducible refine List.mem_cons_of_mem _ ?_))))) | exact TupIn.mono (by assumption) (Fr.keep (by assumption)) (by ((intro p9 h9; repeat (first | (with_reducible exact h9) | (with_reducible refine List.mem_cons_of_mem _ ?_)))))))) ?_; k_whole; (((unfold RetI; intro t9 h9 tk9 F9 N9; (try dsimp only); (try k_sweep); (try k_fold)))))) | (k_here; (with_reducible show wpAny _ _ (call (Value.ref 110) _) _ _ _); k_dflt (refine' c_negated (by k_asm) (by k_asm) (by k_asm) (by k_asm) (by k_asm) (by first | exact rfl | assumption) (by ktr_room) (by ktr_units) (by ((first | exact TupIn.of_news (by k_mem) | exact TupIn.of_K (by k_asm) (by k_is) | exact TupIn.mono (by assumption) (fun _ _ e => e) (by ((intro p9 h9; repeat (first | (with_reducible exact h9) | (with_reducible refine List.mem_cons_of_mem _ ?_))))) | exact TupIn.mono (by assumption) (Fr.keep (by assumption)) (by ((intro p9 h9; repeat (first | (with_reducible exact h9) | (with_reducible refine List.mem_cons_of_mem _ ?_)))))))) ?_; k_whole; (((unfold RetT; intro D9 t9 u9 c9 h9 tk9 F9 N9 l9; (try simp only [AllLt, and_true] at l9); (try dsimp only); (try k_sweep); (try k_fold)))))) | (k_here; (with_reducible show wpAny _ _ (call (Value.ref 103) _) _ _ _); k_dflt (refine' c_divided (by k_asm) (by k_asm) (by k_asm) (by k_asm) (by k_asm) (by first | exact rfl | assumption) (by ktr_room) (by ktr_units) (by ((first | exact TupIn.of_news (by k_mem) | exact TupIn.of_K (by k_asm) (by k_is) | exact TupIn.mono (by assumption) (fun _ _ e => e) (by ((intro p9 h9; repeat (first | (with_reducible exact h9) | (with_reducible refine List.mem_cons_of_mem _ ?_))))) | exact TupIn.mono (by assumption) (Fr.keep (by assumption)) (by ((intro p9 h9; repeat (first | (with_reducible exact h9) | (with_reducible refine List.mem_cons_of_mem _ ?_)))))))) (by ((first | exact TupIn.of_news (by k_mem) | exact TupIn.of_K (by k_asm) (by k_is) | exact TupIn.mono (by assumption) (fun _ _ e => e) (by ((intro p9 h9; repeat (first | (with_reducible exact h9) | (with_reducible refine List.mem_cons_of_mem _ ?_))))) | exact TupIn.mono (by assumption) (Fr.keep (by assumption)) (by ((intro p9 h9; repeat (first | (with_reducible exact h9) | (with_reducible refine List.mem_cons_of_mem _ ?_)))))))) (by ((first | assumption | omega | exact fracF_den (by first | assumption | omega)))) (by ((first | assumption | omega | exact fracF_den (by first | assumption | omega)))) (Nat.le_trans (by bits_by_make) (by decide)) (Nat.le_trans (by bits_by_make) (by decide)) (Nat.le_trans (by bits_by_make) (by decide)) (Nat.le_trans (by bits_by_make) (by decide)) ?_; k_whole; (((unfold RetT; intro D9 t9 u9 c9 h9 tk9 F9 N9 l9; (try simp only [AllLt, and_true] at l9); (try dsimp only); (try k_sweep); (try k_fold)))))) | (k_here; (with_reducible show wpAny _ _ (call (Value.ref 96) _) _ _ _); k_dflt (refine' c_times (by k_asm) (by k_asm) (by k_asm) (by k_asm) (by k_asm) (by first | exact rfl | assumption) (by ktr_room) (by ktr_units) (by ((first | exact TupIn.of_news (by k_mem) | exact TupIn.of_K (by k_asm) (by k_is) | exact TupIn.mono (by assumption) (fun _ _ e => e) (by ((intro p9 h9; repeat (first | (with_reducible exact h9) | (with_reducible refine List.mem_cons_of_mem _ ?_))))) | exact TupIn.mono (by assumption) (Fr.keep (by assumption)) (by ((intro p9 h9; repeat (first | (with_reducible exact h9) | (with_reducible refine List.mem_cons_of_mem _ ?_)))))))) (by ((first | exact TupIn.of_news (by k_mem) | exact TupIn.of_K (by k_asm) (by k_is) | exact TupIn.mono (by assumption) (fun _ _ e => e) (by ((intro p9 h9; repeat (first | (with_reducible exact h9) | (with_reducible refine List.mem_cons_of_mem _ ?_))))) | exact TupIn.mono (by assumption) (Fr.keep (by assumption)) (by ((intro p9 h9; repeat (first | (with_reducible exact h9) | (with_reducible refine List.mem_cons_of_mem _ ?_)))))))) (by ((first | assumption | omega | exact fracF_den (by first | assumption | omega)))) (by ((first | assumption | omega | exact fracF_den (by first | assumption | omega)))) (Nat.le_trans (by bits_by_make) (by decide)) (Nat.le_trans (by bits_by_make) (by decide)) (Nat.le_trans (by bits_by_make) (by decide)) (Nat.le_trans (by bits_by_make) (by decide)) ?_; k_whole; (((unfold RetT; intro D9 t9 u9 c9 h9 tk9 F9 N9 l9; (try simp only [AllLt, and_true] at l9); (try dsimp only); (try k_sweep); (try k_fold)))))) | (k_here; (with_reducible show wpAny _ _ (call (Value.ref 89) _) _ _ _); k_dflt (refine' c_minus (by k_asm) (by k_asm) (by k_asm) (by k_asm) (by k_asm) (by first | exact rfl | assumption) (by ktr_room) (by ktr_units) (by ((first | exact TupIn.of_news (by k_mem) | exact TupIn.of_K (by k_asm) (by k_is) | exact TupIn.mono (by assumption) (fun _ _ e => e) (by ((intro p9 h9; repeat (first | (with_reducible exact h9) | (with_reducible refine List.mem_cons_of_mem _ ?_))))) | exact TupIn.mono (by assumption) (Fr.keep (by assumption)) (by ((intro p9 h9; repeat (first | (with_reducible exact h9) | (with_reducible refine List.mem_cons_of_mem _ ?_)))))))) (by ((first | exact TupIn.of_news (by k_mem) | exact TupIn.of_K (by k_asm) (by k_is) | exact TupIn.mono (by assumption) (fun _ _ e => e) (by ((intro p9 h9; repeat (first | (with_reducible exact h9) | (with_reducible refine List.mem_cons_of_mem _ ?_))))) | exact TupIn.mono (by assumption) (Fr.keep (by assumption)) (by ((intro p9 h9; repeat (first | (with_reducible exact h9) | (with_reducible refine List.mem_cons_of_mem _ ?_)))))))) (by ((first | assumption | omega | exact fracF_den (by first | assumption | omega)))) (by ((first | assumption | omega | exact fracF_den (by first | assumption | omega)))) (Nat.le_trans (by bits_by_make) (by decide)) (Nat.le_trans (by bits_by_make) (by decide)) (Nat.le_trans (by bits_by_make) (by decide)) (Nat.le_trans (by bits_by_make) (by decide)) ?_; k_whole; (((unfold RetT; intro D9 t9 u9 c9 h9 tk9 F9 N9 l9; (try simp only [AllLt, and_true] at l9); (try dsimp only); (try k_sweep); (try k_fold)))))) | (k_here; (with_reducible show wpAny _ _ (call (Value.ref 82) _) _ _ _); k_dflt (refine' c_frac (by k_asm) (by k_asm) (by k_asm) (by k_asm) (by k_asm) (by first | exact rfl | assumption) (by ktr_room) (by ktr_units) (by ((first | assumption | omega | exact fracF_den (by first | assumption | omega)))) (Nat.le_trans (by bits_by_make) (by decide)) ?_; k_whole; (((unfold RetT; intro D9 t9 u9 c9 h9 tk9 F9 N9 l9; (try simp only [AllLt, and_true] at l9); (try dsimp only); (try k_sweep); (try k_fold)))))) | (k_here; (with_reducible show wpAny _ _ (call (Value.ref 74) _) _ _ _); k_dflt (refine' c_gcd (by k_asm) (by k_asm) (by k_asm) (by k_asm) (by k_asm) (by first | exact rfl | assumption) (by ktr_room) (by ktr_units) (by ((first | assumption | omega | exact fracF_den (by first | assumption | omega)))) ?_; k_whole; (((intro t9 h9 tk9 p9 F9 N9; (try dsimp only); (try k_sweep); (try k_fold))))))) | (k_end; wrow_close) | walk1 | (dsimp only; walk1) | (leave1; walk_say "STEP leave1"; try dsimp only) | fail "no step"))
  all_goals try (exfalso; contradiction)
  refine' raised_leave ?kK ?kX ?kF ?kN ?k8 ?k9 ?k7 ?kG ?kS ?kk ?kR
  case kK => k_asm
  case kX => k_asm
  case kF => k_asm
  case kN => with_reducible assumption
  case k8 => with_reducible assumption
  case k9 => with_reducible assumption
  case k7 => with_reducible assumption
  case kG => k_asm
  case kk => exact rfl
  case kR => intro h8 F8 R8 U8; exact ret _ _ _ _ _ _ _ _ _ F8 R8 U8
  case kS => ((intro p9 h9; repeat (first | (with_reducible exact h9) | (with_reducible refine List.mem_cons_of_mem _ ?_))))
end
end
section
section
variable {w : World} {p : Program} {loose : List Str} {mean : ExcName → Option Value} {mg mb : Str → Option Value} {dp un : Nat} {gd : Option (List Code)} {cn : Str} {cs : Scope} {a : Addr} {ccd : Value} {cl : List (Str × Addr)} {outer : List Env} {A₀ : Around} {base h₀ : Heap} {L : Addr} {m : Str → Option Value} {news : List (Addr × Obj)} {s : Shared} {Q E : Value → Shared → Prop}
theorem c_skewFX {A1 : Addr} {a0 a1 : Int} (B : Below A₀ base outer h₀) (F : Fr h₀ L s.heap m) (X : (Mine.hd.heap_1 w.params).In h₀) (N : News h₀ L s.heap news) (T : Top p loose mean mg mb h₀) (hk : cs.kind = .function) (hd : dp + 8 < recursionLimit) (hu : un + 64 < cLine) (h1 : TupIn h₀ news A1 a0 a1) (g2 : 0 < a1) (g3 : (turnF a0 a1 (65536 * 65536)).1.1 = 0) (g4 : (turnF a0 a1 10000000000000000000000000000000000000000).1.1 = 0) (s1 : intBits a0 ≤ 64) (s2 : intBits a1 ≤ 64)
    (ret : RetE base 51 h₀ L m (envX cn cs L a ccd cl :: outer) news s E msgR) :
    wpAny (model Challenge.rw_xm0723_01.row.prog w) (ktrTop dp un gd cn cs L a ccd cl outer) (call (.ref 268) [.ref A1, .ref 66]) Q E s := by
  w_on
  refine wpAny_call ?_
  k_dflt (((refine' code_def ?k1 ?k2 ?k3 ?k4 ?k5 ?kA ?kF ?kK ?k6 ?k7 ?k8 ?k9 ?kB ?_ ?c2 ?c3 ?c4 ?c5; (case kA => exact rfl); (case kF => exact rfl); (case kK => assumption); (case k1 => k_asm); (case k2 => k_asm); (case k3 => k_asm); (case k4 => k_asm); (case k5 => k_asm); (case k6 => k_is); (case k7 => k_is); (case k8 => ktr_room); (case k9 => first | exact BindsTo.of_eq rfl | exact binds_K (by k_in) rfl (by k_is) rfl rfl rfl); (case c5 => decide); (case kB => exact locs rfl); (case c2 => exact rfl); (case c3 => exact rfl); (case c4 => exact rfl); k_whole; intro g' L' h' FG' F' N' B' X' T'; (try dsimp only); (try k_fold))))
  (rename Fr h₀ _ _ _ => FG)
  replace h1 := h1.mono FG.keep (fun _ e => e)
  (repeat' (first | (k_unfold; (try dsimp only)) | ((with_reducible show wpAny _ _ (call (Value.ref _) _) _ _ _); first | (k_here; (with_reducible show wpAny _ _ (call (Value.ref 198) _) _ _ _); k_dflt (refine' c_tanF (by k_asm) (by k_asm) (by k_asm) (by k_asm) (by k_asm) (by first | exact rfl | assumption) (by ktr_room) (by ktr_units) (by ((first | exact TupIn.of_news (by k_mem) | exact TupIn.of_K (by k_asm) (by k_is) | exact TupIn.mono (by assumption) (fun _ _ e => e) (by ((intro p9 h9; repeat (first | (with_reducible exact h9) | (with_reducible refine List.mem_cons_of_mem _ ?_))))) | exact TupIn.mono (by assumption) (Fr.keep (by assumption)) (by ((intro p9 h9; repeat (first | (with_reducible exact h9) | (with_reducible refine List.mem_cons_of_mem _ ?_)))))))) (by ((first | assumption | omega | exact fracF_den (by first | assumption | omega)))) (by (with_reducible assumption)) (by (with_reducible assumption)) (Nat.le_trans (by bits_by_make) (by decide)) (Nat.le_trans (by bits_by_make) (by decide)) ?_; k_whole; (((intro G8 e8 t8 d8 hs8 k8 m8 h8 tk8 F8 R8 U8; (try dsimp only)))))) | (k_here; (with_reducible show wpAny _ _ (call (Value.ref 198) _) _ _ _); k_dflt (refine' c_tan (by k_asm) (by k_asm) (by k_asm) (by k_asm) (by k_asm) (by first | exact rfl | assumption) (by ktr_room) (by ktr_units) (by ((first | exact TupIn.of_news (by k_mem) | exact TupIn.of_K (by k_asm) (by k_is) | exact TupIn.mono (by assumption) (fun _ _ e => e) (by ((intro p9 h9; repeat (first | (with_reducible exact h9) | (with_reducible refine List.mem_cons_of_mem _ ?_))))) | exact TupIn.mono (by assumption) (Fr.keep (by assumption)) (by ((intro p9 h9; repeat (first | (with_reducible exact h9) | (with_reducible refine List.mem_cons_of_mem _ ?_)))))))) (by ((first | assumption | omega | exact fracF_den (by first | assumption | omega)))) (by (first | assumption | exact tan_zero)) (Nat.le_trans (by bits_by_make) (by decide)) (Nat.le_trans (by bits_by_make) (by decide)) ?_; k_whole; (((unfold RetT; intro D9 t9 u9 c9 h9 tk9 F9 N9 l9; (try simp only [AllLt, and_true] at l9); (try dsimp only); (try k_sweep); (try k_fold))))))) | (k_end; wrow_close) | walk1 | (dsimp only; walk1) | (leave1; walk_say "STEP leave1"; try dsimp only) | fail "no step"))
  refine' xk_leave ?kK ?kF ?kR ?kU ?kQ
  case kR => assumption
  case kK => k_asm
  case kF => with_reducible assumption
  case kU => with_reducible assumption
  case kQ => intro h8 R8 U8; exact ret _ _ _ _ _ _ _ _ _ (by k_asm) (R8.sub2 (by ((intro p9 h9; repeat (first | (with_reducible exact h9) | (with_reducible refine List.mem_cons_of_mem _ ?_)))))) U8
theorem c_skewFY {A1 : Addr} {a0 a1 : Int} (B : Below A₀ base outer h₀) (F : Fr h₀ L s.heap m) (X : (Mine.hd.heap_1 w.params).In h₀) (N : News h₀ L s.heap news) (T : Top p loose mean mg mb h₀) (hk : cs.kind = .function) (hd : dp + 8 < recursionLimit) (hu : un + 64 < cLine) (h1 : TupIn h₀ news A1 a0 a1) (g2 : 0 < a1) (g3 : (turnF a0 a1 (65536 * 65536)).1.1 = 0) (g4 : (turnF a0 a1 10000000000000000000000000000000000000000).1.1 = 0) (s1 : intBits a0 ≤ 64) (s2 : intBits a1 ≤ 64)
    (ret : RetE base 51 h₀ L m (envX cn cs L a ccd cl :: outer) news s E msgR) :
    wpAny (model Challenge.rw_xm0723_01.row.prog w) (ktrTop dp un gd cn cs L a ccd cl outer) (call (.ref 268) [.ref 66, .ref A1]) Q E s := by
  w_on
  refine wpAny_call ?_
  k_dflt (((refine' code_def ?k1 ?k2 ?k3 ?k4 ?k5 ?kA ?kF ?kK ?k6 ?k7 ?k8 ?k9 ?kB ?_ ?c2 ?c3 ?c4 ?c5; (case kA => exact rfl); (case kF => exact rfl); (case kK => assumption); (case k1 => k_asm); (case k2 => k_asm); (case k3 => k_asm); (case k4 => k_asm); (case k5 => k_asm); (case k6 => k_is); (case k7 => k_is); (case k8 => ktr_room); (case k9 => first | exact BindsTo.of_eq rfl | exact binds_K (by k_in) rfl (by k_is) rfl rfl rfl); (case c5 => decide); (case kB => exact locs rfl); (case c2 => exact rfl); (case c3 => exact rfl); (case c4 => exact rfl); k_whole; intro g' L' h' FG' F' N' B' X' T'; (try dsimp only); (try k_fold))))
  (rename Fr h₀ _ _ _ => FG)
  replace h1 := h1.mono FG.keep (fun _ e => e)
  (repeat' (first | (k_unfold; (try dsimp only)) | ((with_reducible show wpAny _ _ (call (Value.ref _) _) _ _ _); first | (k_here; (with_reducible show wpAny _ _ (call (Value.ref 198) _) _ _ _); k_dflt (refine' c_tanF (by k_asm) (by k_asm) (by k_asm) (by k_asm) (by k_asm) (by first | exact rfl | assumption) (by ktr_room) (by ktr_units) (by ((first | exact TupIn.of_news (by k_mem) | exact TupIn.of_K (by k_asm) (by k_is) | exact TupIn.mono (by assumption) (fun _ _ e => e) (by ((intro p9 h9; repeat (first | (with_reducible exact h9) | (with_reducible refine List.mem_cons_of_mem _ ?_))))) | exact TupIn.mono (by assumption) (Fr.keep (by assumption)) (by ((intro p9 h9; repeat (first | (with_reducible exact h9) | (with_reducible refine List.mem_cons_of_mem _ ?_)))))))) (by ((first | assumption | omega | exact fracF_den (by first | assumption | omega)))) (by (with_reducible assumption)) (by (with_reducible assumption)) (Nat.le_trans (by bits_by_make) (by decide)) (Nat.le_trans (by bits_by_make) (by decide)) ?_; k_whole; (((intro G8 e8 t8 d8 hs8 k8 m8 h8 tk8 F8 R8 U8; (try dsimp only)))))) | (k_here; (with_reducible show wpAny _ _ (call (Value.ref 198) _) _ _ _); k_dflt (refine' c_tan (by k_asm) (by k_asm) (by k_asm) (by k_asm) (by k_asm) (by first | exact rfl | assumption) (by ktr_room) (by ktr_units) (by ((first | exact TupIn.of_news (by k_mem) | exact TupIn.of_K (by k_asm) (by k_is) | exact TupIn.mono (by assumption) (fun _ _ e => e) (by ((intro p9 h9; repeat (first | (with_reducible exact h9) | (with_reducible refine List.mem_cons_of_mem _ ?_))))) | exact TupIn.mono (by assumption) (Fr.keep (by assumption)) (by ((intro p9 h9; repeat (first | (with_reducible exact h9) | (with_reducible refine List.mem_cons_of_mem _ ?_)))))))) (by ((first | assumption | omega | exact fracF_den (by first | assumption | omega)))) (by (first | assumption | exact tan_zero)) (Nat.le_trans (by bits_by_make) (by decide)) (Nat.le_trans (by bits_by_make) (by decide)) ?_; k_whole; (((unfold RetT; intro D9 t9 u9 c9 h9 tk9 F9 N9 l9; (try simp only [AllLt, and_true] at l9); (try dsimp only); (try k_sweep); (try k_fold))))))) | (k_end; wrow_close) | walk1 | (dsimp only; walk1) | (leave1; walk_say "STEP leave1"; try dsimp only) | fail "no step"))
  refine' xk_leave ?kK ?kF ?kR ?kU ?kQ
  case kR => assumption
  case kK => k_asm
  case kF => with_reducible assumption
  case kU => with_reducible assumption
  case kQ => intro h8 R8 U8; exact ret _ _ _ _ _ _ _ _ _ (by k_asm) (R8.sub2 (by ((intro p9 h9; repeat (first | (with_reducible exact h9) | (with_reducible refine List.mem_cons_of_mem _ ?_)))))) U8
end
end
section
section
variable {w : World} {p : Program} {loose : List Str} {mean : ExcName → Option Value} {mg mb : Str → Option Value} {dp un : Nat} {gd : Option (List Code)} {cn : Str} {cs : Scope} {a : Addr} {ccd : Value} {cl : List (Str × Addr)} {outer : List Env} {A₀ : Around} {base h₀ : Heap} {L : Addr} {m : Str → Option Value} {news : List (Addr × Obj)} {s : Shared} {Q E : Value → Shared → Prop}
local macro_rules | `(tactic| walk_at "getAttr ref") => `(tactic| (k_here; (with_reducible show wpAny _ _ (getAttr (Value.ref _) (Str.ofString "message") _) _ _ _); k_dflt (refine' xk_get ?kF ?kX ?kN ?k1 ?k2 ?k3 ?k4 ?k5 ?k6 ?k7 ?k8 ?k9 ?_; (case kF => k_asm); (case kX => k_asm); (case kN => k_asm); (case k1 => k_mem); (case k2 => k_mem); (case k3 => k_is); (case k4 => k_is); (case k5 => k_is); (case k6 => k_is); (case k7 => k_is); (case k8 => exact rfl); (case k9 => exact rfl); k_whole)))
local macro_rules | `(tactic| walk_at "exec Raise some none") => `(tactic| (k_here; k_dflt (refine' x_RaiseH (K := Mine.hd.heap_1 w.params) (C := 63) ?kq ?kh ?_; (case kq => kts_isx); (case kh => exact rfl); k_whole)))
theorem c_skewOfFX {A1 : Addr} {a0 a1 : Int} {tn : Tok} (B : Below A₀ base outer h₀) (F : Fr h₀ L s.heap m) (X : (Mine.hd.heap_1 w.params).In h₀) (N : News h₀ L s.heap news) (T : Top p loose mean mg mb h₀) (hk : cs.kind = .function) (hd : dp + 10 < recursionLimit) (hu : un + 80 < cLine) (h1 : TupIn h₀ news A1 a0 a1) (g2 : 0 < a1) (g3 : (turnF a0 a1 (65536 * 65536)).1.1 = 0) (g4 : (turnF a0 a1 10000000000000000000000000000000000000000).1.1 = 0) (s1 : intBits a0 ≤ 64) (s2 : intBits a1 ≤ 64) (XB : (Mine.hd.heap_1 w.params).In base) (TB : Top p loose mean mg mb base)
    (ret : RetES base 63 h₀ L m (envX cn cs L a ccd cl :: outer) news s E msgR) :
    wpAny (model Challenge.rw_xm0723_01.row.prog w) (ktrTop dp un gd cn cs L a ccd cl outer) (call (.ref 275) [.str (Str.ofString "skewX") tn, .ref A1]) Q E s := by
  w_on
  refine wpAny_call ?_
  k_dflt (((refine' code_def ?k1 ?k2 ?k3 ?k4 ?k5 ?kA ?kF ?kK ?k6 ?k7 ?k8 ?k9 ?kB ?_ ?c2 ?c3 ?c4 ?c5; (case kA => exact rfl); (case kF => exact rfl); (case kK => assumption); (case k1 => k_asm); (case k2 => k_asm); (case k3 => k_asm); (case k4 => k_asm); (case k5 => k_asm); (case k6 => k_is); (case k7 => k_is); (case k8 => ktr_room); (case k9 => first | exact BindsTo.of_eq rfl | exact binds_K (by k_in) rfl (by k_is) rfl rfl rfl); (case c5 => decide); (case kB => exact locs rfl); (case c2 => exact rfl); (case c3 => exact rfl); (case c4 => exact rfl); k_whole; intro g' L' h' FG' F' N' B' X' T'; (try dsimp only); (try k_fold))))
  (rename Fr h₀ _ _ _ => FG)
  replace h1 := h1.mono FG.keep (fun _ e => e)
  (repeat' (first | (k_unfold; (try dsimp only)) | ((with_reducible show wpAny _ _ (call (Value.ref _) _) _ _ _); first | (k_here; (with_reducible show wpAny _ _ (call (Value.ref 268) _) _ _ _); k_dflt (refine' c_skewFY (by k_asm) (by k_asm) (by k_asm) (by k_asm) (by k_asm) (by first | exact rfl | assumption) (by ktr_room) (by ktr_units) (by ((first | exact TupIn.of_news (by k_mem) | exact TupIn.of_K (by k_asm) (by k_is) | exact TupIn.mono (by assumption) (fun _ _ e => e) (by ((intro p9 h9; repeat (first | (with_reducible exact h9) | (with_reducible refine List.mem_cons_of_mem _ ?_))))) | exact TupIn.mono (by assumption) (Fr.keep (by assumption)) (by ((intro p9 h9; repeat (first | (with_reducible exact h9) | (with_reducible refine List.mem_cons_of_mem _ ?_)))))))) (by ((first | assumption | omega | exact fracF_den (by first | assumption | omega)))) (by (with_reducible assumption)) (by (with_reducible assumption)) (Nat.le_trans (by bits_by_make) (by decide)) (Nat.le_trans (by bits_by_make) (by decide)) ?_; k_whole; (((intro G8 e8 t8 d8 hs8 k8 m8 h8 tk8 F8 R8 U8; (try dsimp only)))))) | (k_here; (with_reducible show wpAny _ _ (call (Value.ref 268) _) _ _ _); k_dflt (refine' c_skewFX (by k_asm) (by k_asm) (by k_asm) (by k_asm) (by k_asm) (by first | exact rfl | assumption) (by ktr_room) (by ktr_units) (by ((first | exact TupIn.of_news (by k_mem) | exact TupIn.of_K (by k_asm) (by k_is) | exact TupIn.mono (by assumption) (fun _ _ e => e) (by ((intro p9 h9; repeat (first | (with_reducible exact h9) | (with_reducible refine List.mem_cons_of_mem _ ?_))))) | exact TupIn.mono (by assumption) (Fr.keep (by assumption)) (by ((intro p9 h9; repeat (first | (with_reducible exact h9) | (with_reducible refine List.mem_cons_of_mem _ ?_)))))))) (by ((first | assumption | omega | exact fracF_den (by first | assumption | omega)))) (by (with_reducible assumption)) (by (with_reducible assumption)) (Nat.le_trans (by bits_by_make) (by decide)) (Nat.le_trans (by bits_by_make) (by decide)) ?_; k_whole; (((intro G8 e8 t8 d8 hs8 k8 m8 h8 tk8 F8 R8 U8; (try dsimp only)))))) | (k_here; (with_reducible show wpAny _ _ (call (Value.ref 63) _) _ _ _); k_dflt (refine' c_mkS (by k_asm) (by k_asm) (by k_asm) (by k_asm) (by k_asm) (by first | exact rfl | assumption) (by ktr_room) (by ktr_units)  ?_; k_whole; (((intro e9 x9 t9 hs9 k9 h9 tk9 F9 N9 l8 l9 l7; (try simp only [AllLt, and_true] at l8); (try dsimp only); (try k_sweep); (try k_fold)))))) | (k_here; (with_reducible show wpAny _ _ (call (Value.ref 51) _) _ _ _); k_dflt (refine' c_mkN (by k_asm) (by k_asm) (by k_asm) (by k_asm) (by k_asm) (by first | exact rfl | assumption) (by ktr_room) (by ktr_units)  ?_; k_whole; (((intro e9 x9 t9 hs9 k9 h9 tk9 F9 N9 l8 l9 l7; (try simp only [AllLt, and_true] at l8); (try dsimp only); (try k_sweep); (try k_fold))))))) | (k_end; wrow_close) | walk1 | (dsimp only; walk1) | (leave1; walk_say "STEP leave1"; try dsimp only) | fail "no step"))
  refine' xk_caught ?kR ?kF ?kK ?kU ?kX ?kT ?ke ?kq ?kk ?kf ?kl ?kx ?kd
  case kR => assumption
  case kF => with_reducible assumption
  case kK => k_asm
  case kU => with_reducible assumption
  case kX => exact XB
  case kT => exact TB
  case ke => k_is
  case kq => kts_isx
  case kf => exact rfl
  case kl => exact rfl
  case kx => exact rfl
  case kd => decide
  intro h6 g6 T6 tk6 KT6 F6 N6 ne6 K6 X6 P6
  (repeat' (first | (k_unfold; (try dsimp only)) | ((with_reducible show wpAny _ _ (call (Value.ref _) _) _ _ _); first | (k_here; (with_reducible show wpAny _ _ (call (Value.ref 268) _) _ _ _); k_dflt (refine' c_skewFY (by k_asm) (by k_asm) (by k_asm) (by k_asm) (by k_asm) (by first | exact rfl | assumption) (by ktr_room) (by ktr_units) (by ((first | exact TupIn.of_news (by k_mem) | exact TupIn.of_K (by k_asm) (by k_is) | exact TupIn.mono (by assumption) (fun _ _ e => e) (by ((intro p9 h9; repeat (first | (with_reducible exact h9) | (with_reducible refine List.mem_cons_of_mem _ ?_))))) | exact TupIn.mono (by assumption) (Fr.keep (by assumption)) (by ((intro p9 h9; repeat (first | (with_reducible exact h9) | (with_reducible refine List.mem_cons_of_mem _ ?_)))))))) (by ((first | assumption | omega | exact fracF_den (by first | assumption | omega)))) (by (with_reducible assumption)) (by (with_reducible assumption)) (Nat.le_trans (by bits_by_make) (by decide)) (Nat.le_trans (by bits_by_make) (by decide)) ?_; k_whole; (((intro G8 e8 t8 d8 hs8 k8 m8 h8 tk8 F8 R8 U8; (try dsimp only)))))) | (k_here; (with_reducible show wpAny _ _ (call (Value.ref 268) _) _ _ _); k_dflt (refine' c_skewFX (by k_asm) (by k_asm) (by k_asm) (by k_asm) (by k_asm) (by first | exact rfl | assumption) (by ktr_room) (by ktr_units) (by ((first | exact TupIn.of_news (by k_mem) | exact TupIn.of_K (by k_asm) (by k_is) | exact TupIn.mono (by assumption) (fun _ _ e => e) (by ((intro p9 h9; repeat (first | (with_reducible exact h9) | (with_reducible refine List.mem_cons_of_mem _ ?_))))) | exact TupIn.mono (by assumption) (Fr.keep (by assumption)) (by ((intro p9 h9; repeat (first | (with_reducible exact h9) | (with_reducible refine List.mem_cons_of_mem _ ?_)))))))) (by ((first | assumption | omega | exact fracF_den (by first | assumption | omega)))) (by (with_reducible assumption)) (by (with_reducible assumption)) (Nat.le_trans (by bits_by_make) (by decide)) (Nat.le_trans (by bits_by_make) (by decide)) ?_; k_whole; (((intro G8 e8 t8 d8 hs8 k8 m8 h8 tk8 F8 R8 U8; (try dsimp only)))))) | (k_here; (with_reducible show wpAny _ _ (call (Value.ref 63) _) _ _ _); k_dflt (refine' c_mkS (by k_asm) (by k_asm) (by k_asm) (by k_asm) (by k_asm) (by first | exact rfl | assumption) (by ktr_room) (by ktr_units)  ?_; k_whole; (((intro e9 x9 t9 hs9 k9 h9 tk9 F9 N9 l8 l9 l7; (try simp only [AllLt, and_true] at l8); (try dsimp only); (try k_sweep); (try k_fold)))))) | (k_here; (with_reducible show wpAny _ _ (call (Value.ref 51) _) _ _ _); k_dflt (refine' c_mkN (by k_asm) (by k_asm) (by k_asm) (by k_asm) (by k_asm) (by first | exact rfl | assumption) (by ktr_room) (by ktr_units)  ?_; k_whole; (((intro e9 x9 t9 hs9 k9 h9 tk9 F9 N9 l8 l9 l7; (try simp only [AllLt, and_true] at l8); (try dsimp only); (try k_sweep); (try k_fold))))))) | (k_end; wrow_close) | walk1 | (dsimp only; walk1) | (leave1; walk_say "STEP leave1"; try dsimp only) | fail "no step"))
  refine' raisedH_suite ?zK ?zX ?zF ?zN ?z8 ?z9 ?z7 ?zm ?zG ?zT ?zS ?zk ?zl ?zR
  case zT => exact KT6
  case zR => intro h9 tk9 F9 R9 U9; exact ret _ _ _ _ _ _ _ _ _ _ F9 R9 U9
  case zK => exact K6
  case zX => exact X6
  case zF => k_asm
  case zN => with_reducible assumption
  case z8 => with_reducible assumption
  case z9 => with_reducible assumption
  case z7 => with_reducible assumption
  case zm => k_mem
  case zG => k_asm
  case zk => exact rfl
  case zl => exact rfl
  case zS => ((intro p9 h9; repeat (first | (with_reducible exact h9) | (with_reducible refine List.mem_cons_of_mem _ ?_))))
theorem c_skewOfFY {A1 : Addr} {a0 a1 : Int} {tn : Tok} (B : Below A₀ base outer h₀) (F : Fr h₀ L s.heap m) (X : (Mine.hd.heap_1 w.params).In h₀) (N : News h₀ L s.heap news) (T : Top p loose mean mg mb h₀) (hk : cs.kind = .function) (hd : dp + 10 < recursionLimit) (hu : un + 80 < cLine) (h1 : TupIn h₀ news A1 a0 a1) (g2 : 0 < a1) (g3 : (turnF a0 a1 (65536 * 65536)).1.1 = 0) (g4 : (turnF a0 a1 10000000000000000000000000000000000000000).1.1 = 0) (s1 : intBits a0 ≤ 64) (s2 : intBits a1 ≤ 64) (XB : (Mine.hd.heap_1 w.params).In base) (TB : Top p loose mean mg mb base)
    (ret : RetES base 63 h₀ L m (envX cn cs L a ccd cl :: outer) news s E msgR) :
    wpAny (model Challenge.rw_xm0723_01.row.prog w) (ktrTop dp un gd cn cs L a ccd cl outer) (call (.ref 275) [.str (Str.ofString "skewY") tn, .ref A1]) Q E s := by
  w_on
  refine wpAny_call ?_
  k_dflt (((refine' code_def ?k1 ?k2 ?k3 ?k4 ?k5 ?kA ?kF ?kK ?k6 ?k7 ?k8 ?k9 ?kB ?_ ?c2 ?c3 ?c4 ?c5; (case kA => exact rfl); (case kF => exact rfl); (case kK => assumption); (case k1 => k_asm); (case k2 => k_asm); (case k3 => k_asm); (case k4 => k_asm); (case k5 => k_asm); (case k6 => k_is); (case k7 => k_is); (case k8 => ktr_room); (case k9 => first | exact BindsTo.of_eq rfl | exact binds_K (by k_in) rfl (by k_is) rfl rfl rfl); (case c5 => decide); (case kB => exact locs rfl); (case c2 => exact rfl); (case c3 => exact rfl); (case c4 => exact rfl); k_whole; intro g' L' h' FG' F' N' B' X' T'; (try dsimp only); (try k_fold))))
  (rename Fr h₀ _ _ _ => FG)
  replace h1 := h1.mono FG.keep (fun _ e => e)
  (repeat' (first | (k_unfold; (try dsimp only)) | ((with_reducible show wpAny _ _ (call (Value.ref _) _) _ _ _); first | (k_here; (with_reducible show wpAny _ _ (call (Value.ref 268) _) _ _ _); k_dflt (refine' c_skewFY (by k_asm) (by k_asm) (by k_asm) (by k_asm) (by k_asm) (by first | exact rfl | assumption) (by ktr_room) (by ktr_units) (by ((first | exact TupIn.of_news (by k_mem) | exact TupIn.of_K (by k_asm) (by k_is) | exact TupIn.mono (by assumption) (fun _ _ e => e) (by ((intro p9 h9; repeat (first | (with_reducible exact h9) | (with_reducible refine List.mem_cons_of_mem _ ?_))))) | exact TupIn.mono (by assumption) (Fr.keep (by assumption)) (by ((intro p9 h9; repeat (first | (with_reducible exact h9) | (with_reducible refine List.mem_cons_of_mem _ ?_)))))))) (by ((first | assumption | omega | exact fracF_den (by first | assumption | omega)))) (by (with_reducible assumption)) (by (with_reducible assumption)) (Nat.le_trans (by bits_by_make) (by decide)) (Nat.le_trans (by bits_by_make) (by decide)) ?_; k_whole; (((intro G8 e8 t8 d8 hs8 k8 m8 h8 tk8 F8 R8 U8; (try dsimp only)))))) | (k_here; (with_reducible show wpAny _ _ (call (Value.ref 268) _) _ _ _); k_dflt (refine' c_skewFX (by k_asm) (by k_asm) (by k_asm) (by k_asm) (by k_asm) (by first | exact rfl | assumption) (by ktr_room) (by ktr_units) (by ((first | exact TupIn.of_news (by k_mem) | exact TupIn.of_K (by k_asm) (by k_is) | exact TupIn.mono (by assumption) (fun _ _ e => e) (by ((intro p9 h9; repeat (first | (with_reducible exact h9) | (with_reducible refine List.mem_cons_of_mem _ ?_))))) | exact TupIn.mono (by assumption) (Fr.keep (by assumption)) (by ((intro p9 h9; repeat (first | (with_reducible exact h9) | (with_reducible refine List.mem_cons_of_mem _ ?_)))))))) (by ((first | assumption | omega | exact fracF_den (by first | assumption | omega)))) (by (with_reducible assumption)) (by (with_reducible assumption)) (Nat.le_trans (by bits_by_make) (by decide)) (Nat.le_trans (by bits_by_make) (by decide)) ?_; k_whole; (((intro G8 e8 t8 d8 hs8 k8 m8 h8 tk8 F8 R8 U8; (try dsimp only)))))) | (k_here; (with_reducible show wpAny _ _ (call (Value.ref 63) _) _ _ _); k_dflt (refine' c_mkS (by k_asm) (by k_asm) (by k_asm) (by k_asm) (by k_asm) (by first | exact rfl | assumption) (by ktr_room) (by ktr_units)  ?_; k_whole; (((intro e9 x9 t9 hs9 k9 h9 tk9 F9 N9 l8 l9 l7; (try simp only [AllLt, and_true] at l8); (try dsimp only); (try k_sweep); (try k_fold)))))) | (k_here; (with_reducible show wpAny _ _ (call (Value.ref 51) _) _ _ _); k_dflt (refine' c_mkN (by k_asm) (by k_asm) (by k_asm) (by k_asm) (by k_asm) (by first | exact rfl | assumption) (by ktr_room) (by ktr_units)  ?_; k_whole; (((intro e9 x9 t9 hs9 k9 h9 tk9 F9 N9 l8 l9 l7; (try simp only [AllLt, and_true] at l8); (try dsimp only); (try k_sweep); (try k_fold))))))) | (k_end; wrow_close) | walk1 | (dsimp only; walk1) | (leave1; walk_say "STEP leave1"; try dsimp only) | fail "no step"))
  refine' xk_caught ?kR ?kF ?kK ?kU ?kX ?kT ?ke ?kq ?kk ?kf ?kl ?kx ?kd
  case kR => assumption
  case kF => with_reducible assumption
  case kK => k_asm
  case kU => with_reducible assumption
  case kX => exact XB
  case kT => exact TB
  case ke => k_is
  case kq => kts_isx
  case kf => exact rfl
  case kl => exact rfl
  case kx => exact rfl
  case kd => decide
  intro h6 g6 T6 tk6 KT6 F6 N6 ne6 K6 X6 P6
  (repeat' (first | (k_unfold; (try dsimp only)) | ((with_reducible show wpAny _ _ (call (Value.ref _) _) _ _ _); first | (k_here; (with_reducible show wpAny _ _ (call (Value.ref 268) _) _ _ _); k_dflt (refine' c_skewFY (by k_asm) (by k_asm) (by k_asm) (by k_asm) (by k_asm) (by first | exact rfl | assumption) (by ktr_room) (by ktr_units) (by ((first | exact TupIn.of_news (by k_mem) | exact TupIn.of_K (by k_asm) (by k_is) | exact TupIn.mono (by assumption) (fun _ _ e => e) (by ((intro p9 h9; repeat (first | (with_reducible exact h9) | (with_reducible refine List.mem_cons_of_mem _ ?_))))) | exact TupIn.mono (by assumption) (Fr.keep (by assumption)) (by ((intro p9 h9; repeat (first | (with_reducible exact h9) | (with_reducible refine List.mem_cons_of_mem _ ?_)))))))) (by ((first | assumption | omega | exact fracF_den (by first | assumption | omega)))) (by (with_reducible assumption)) (by (with_reducible assumption)) (Nat.le_trans (by bits_by_make) (by decide)) (Nat.le_trans (by bits_by_make) (by decide)) ?_; k_whole; (((intro G8 e8 t8 d8 hs8 k8 m8 h8 tk8 F8 R8 U8; (try dsimp only)))))) | (k_here; (with_reducible show wpAny _ _ (call (Value.ref 268) _) _ _ _); k_dflt (refine' c_skewFX (by k_asm) (by k_asm) (by k_asm) (by k_asm) (by k_asm) (by first | exact rfl | assumption) (by ktr_room) (by ktr_units) (by ((first | exact TupIn.of_news (by k_mem) | exact TupIn.of_K (by k_asm) (by k_is) | exact TupIn.mono (by assumption) (fun _ _ e => e) (by ((intro p9 h9; repeat (first | (with_reducible exact h9) | (with_reducible refine List.mem_cons_of_mem _ ?_))))) | exact TupIn.mono (by assumption) (Fr.keep (by assumption)) (by ((intro p9 h9; repeat (first | (with_reducible exact h9) | (with_reducible refine List.mem_cons_of_mem _ ?_)))))))) (by ((first | assumption | omega | exact fracF_den (by first | assumption | omega)))) (by (with_reducible assumption)) (by (with_reducible assumption)) (Nat.le_trans (by bits_by_make) (by decide)) (Nat.le_trans (by bits_by_make) (by decide)) ?_; k_whole; (((intro G8 e8 t8 d8 hs8 k8 m8 h8 tk8 F8 R8 U8; (try dsimp only)))))) | (k_here; (with_reducible show wpAny _ _ (call (Value.ref 63) _) _ _ _); k_dflt (refine' c_mkS (by k_asm) (by k_asm) (by k_asm) (by k_asm) (by k_asm) (by first | exact rfl | assumption) (by ktr_room) (by ktr_units)  ?_; k_whole; (((intro e9 x9 t9 hs9 k9 h9 tk9 F9 N9 l8 l9 l7; (try simp only [AllLt, and_true] at l8); (try dsimp only); (try k_sweep); (try k_fold)))))) | (k_here; (with_reducible show wpAny _ _ (call (Value.ref 51) _) _ _ _); k_dflt (refine' c_mkN (by k_asm) (by k_asm) (by k_asm) (by k_asm) (by k_asm) (by first | exact rfl | assumption) (by ktr_room) (by ktr_units)  ?_; k_whole; (((intro e9 x9 t9 hs9 k9 h9 tk9 F9 N9 l8 l9 l7; (try simp only [AllLt, and_true] at l8); (try dsimp only); (try k_sweep); (try k_fold))))))) | (k_end; wrow_close) | walk1 | (dsimp only; walk1) | (leave1; walk_say "STEP leave1"; try dsimp only) | fail "no step"))
  refine' raisedH_suite ?zK ?zX ?zF ?zN ?z8 ?z9 ?z7 ?zm ?zG ?zT ?zS ?zk ?zl ?zR
  case zT => exact KT6
  case zR => intro h9 tk9 F9 R9 U9; exact ret _ _ _ _ _ _ _ _ _ _ F9 R9 U9
  case zK => exact K6
  case zX => exact X6
  case zF => k_asm
  case zN => with_reducible assumption
  case z8 => with_reducible assumption
  case z9 => with_reducible assumption
  case z7 => with_reducible assumption
  case zm => k_mem
  case zG => k_asm
  case zk => exact rfl
  case zl => exact rfl
  case zS => ((intro p9 h9; repeat (first | (with_reducible exact h9) | (with_reducible refine List.mem_cons_of_mem _ ?_))))
end
end
section
section
variable {w : World} {p : Program} {loose : List Str} {mean : ExcName → Option Value} {mg mb : Str → Option Value} {dp un : Nat} {gd : Option (List Code)} {cn : Str} {cs : Scope} {a : Addr} {ccd : Value} {cl : List (Str × Addr)} {outer : List Env} {A₀ : Around} {base h₀ : Heap} {L : Addr} {m : Str → Option Value} {news : List (Addr × Obj)} {s : Shared} {Q E : Value → Shared → Prop}
local macro_rules | `(tactic| walk_at "getAttr ref") => `(tactic| (k_here; (with_reducible show wpAny _ _ (getAttr (Value.ref _) (Str.ofString "message") _) _ _ _); k_dflt (refine' xk_get ?kF ?kX ?kN ?k1 ?k2 ?k3 ?k4 ?k5 ?k6 ?k7 ?k8 ?k9 ?_; (case kF => k_asm); (case kX => k_asm); (case kN => k_asm); (case k1 => k_mem); (case k2 => k_mem); (case k3 => k_is); (case k4 => k_is); (case k5 => k_is); (case k6 => k_is); (case k7 => k_is); (case k8 => exact rfl); (case k9 => exact rfl); k_whole)))
theorem c_ansFX {A1 : Addr} {a0 a1 : Int} {tn : Tok} (B : Below A₀ base [] h₀) (F : Fr h₀ L s.heap m) (X : (Mine.hd.heap_1 w.params).In h₀) (N : News h₀ L s.heap news) (T : Top p loose mean mg mb h₀) (hk : cs.kind = .function) (hd : dp + 12 < recursionLimit) (hu : un + 96 < cLine) (h1 : TupIn h₀ news A1 a0 a1) (g2 : 0 < a1) (g3 : (turnF a0 a1 (65536 * 65536)).1.1 = 0) (g4 : (turnF a0 a1 10000000000000000000000000000000000000000).1.1 = 0) (s1 : intBits a0 ≤ 64) (s2 : intBits a1 ≤ 64) (XB : (Mine.hd.heap_1 w.params).In base) (TB : Top p loose mean mg mb base)
    (ret : RetL h₀ L m news s Q msgR) :
    wpAny (model Challenge.rw_xm0723_01.row.prog w) (ktrTop dp un gd cn cs L a ccd [] []) (call (.ref 322) [.str (Str.ofString "skewX") tn, .ref A1]) Q E s := by
  w_on
  refine wpAny_call ?_
  k_dflt (((refine' code_defS0 ?k1 ?k2 ?k3 ?k4 ?k5 ?kA ?k6 ?k7 ?k8 ?k9 ?kB ?_ ?cK ?c2 ?c3 ?c4 ?c5; (case kA => exact rfl); (case k2 => k_asm); (case k1 => k_asm); (case k3 => k_asm); (case k4 => k_asm); (case k5 => k_asm); (case k6 => k_is); (case k7 => k_is); (case k8 => ktr_room); (case k9 => first | exact BindsTo.of_eq rfl | exact binds_K (by k_in) rfl (by k_is) rfl rfl rfl); (case kB => exact locs rfl); (case cK => first | exact rfl | assumption); (case c2 => exact rfl); (case c3 => exact rfl); (case c4 => exact rfl); (case c5 => decide); k_whole; intro g' L' h' FG' F' N' B' X' T' D'; (try dsimp only); (try k_fold))))
  (rename Fr h₀ _ _ _ => FG)
  replace h1 := h1.mono FG.keep (fun _ e => e)
  (repeat' (first | (k_unfold; (try dsimp only)) | ((with_reducible show wpAny _ _ (call (Value.ref _) _) _ _ _); first | (k_here; (with_reducible show wpAny _ _ (call (Value.ref 275) _) _ _ _); k_dflt (refine' c_skewOfFY (by k_asm) (by k_asm) (by k_asm) (by k_asm) (by k_asm) (by first | exact rfl | assumption) (by ktr_room) (by ktr_units) (by ((first | exact TupIn.of_news (by k_mem) | exact TupIn.of_K (by k_asm) (by k_is) | exact TupIn.mono (by assumption) (fun _ _ e => e) (by ((intro p9 h9; repeat (first | (with_reducible exact h9) | (with_reducible refine List.mem_cons_of_mem _ ?_))))) | exact TupIn.mono (by assumption) (Fr.keep (by assumption)) (by ((intro p9 h9; repeat (first | (with_reducible exact h9) | (with_reducible refine List.mem_cons_of_mem _ ?_)))))))) (by ((first | assumption | omega | exact fracF_den (by first | assumption | omega)))) (by (with_reducible assumption)) (by (with_reducible assumption)) (Nat.le_trans (by bits_by_make) (by decide)) (Nat.le_trans (by bits_by_make) (by decide)) (by (with_reducible assumption)) (by (with_reducible assumption)) ?_; k_whole; (((intro G8 e8 t8 d8 cx8 hs8 k8 m8 h8 tk8 F8 R8 U8; (try dsimp only)))))) | (k_here; (with_reducible show wpAny _ _ (call (Value.ref 275) _) _ _ _); k_dflt (refine' c_skewOfFX (by k_asm) (by k_asm) (by k_asm) (by k_asm) (by k_asm) (by first | exact rfl | assumption) (by ktr_room) (by ktr_units) (by ((first | exact TupIn.of_news (by k_mem) | exact TupIn.of_K (by k_asm) (by k_is) | exact TupIn.mono (by assumption) (fun _ _ e => e) (by ((intro p9 h9; repeat (first | (with_reducible exact h9) | (with_reducible refine List.mem_cons_of_mem _ ?_))))) | exact TupIn.mono (by assumption) (Fr.keep (by assumption)) (by ((intro p9 h9; repeat (first | (with_reducible exact h9) | (with_reducible refine List.mem_cons_of_mem _ ?_)))))))) (by ((first | assumption | omega | exact fracF_den (by first | assumption | omega)))) (by (with_reducible assumption)) (by (with_reducible assumption)) (Nat.le_trans (by bits_by_make) (by decide)) (Nat.le_trans (by bits_by_make) (by decide)) (by (with_reducible assumption)) (by (with_reducible assumption)) ?_; k_whole; (((intro G8 e8 t8 d8 cx8 hs8 k8 m8 h8 tk8 F8 R8 U8; (try dsimp only))))))) | (k_end; wrow_close) | walk1 | (dsimp only; walk1) | (leave1; walk_say "STEP leave1"; try dsimp only) | fail "no step"))
  refine' xk_caught ?kR ?kF ?kK ?kU ?kX ?kT ?ke ?kq ?kk ?kf ?kl ?kx ?kd
  case kR => assumption
  case kF => with_reducible assumption
  case kK => k_asm
  case kU => with_reducible assumption
  case kX => exact XB
  case kT => exact TB
  case ke => k_is
  case kq => kts_isx
  case kf => exact rfl
  case kl => exact rfl
  case kx => exact rfl
  case kd => decide
  intro h6 g6 T6 tk6 KT6 F6 N6 ne6 K6 X6 P6
  (repeat' (first | (k_unfold; (try dsimp only)) | ((with_reducible show wpAny _ _ (call (Value.ref _) _) _ _ _); first | (k_here; (with_reducible show wpAny _ _ (call (Value.ref 275) _) _ _ _); k_dflt (refine' c_skewOfFY (by k_asm) (by k_asm) (by k_asm) (by k_asm) (by k_asm) (by first | exact rfl | assumption) (by ktr_room) (by ktr_units) (by ((first | exact TupIn.of_news (by k_mem) | exact TupIn.of_K (by k_asm) (by k_is) | exact TupIn.mono (by assumption) (fun _ _ e => e) (by ((intro p9 h9; repeat (first | (with_reducible exact h9) | (with_reducible refine List.mem_cons_of_mem _ ?_))))) | exact TupIn.mono (by assumption) (Fr.keep (by assumption)) (by ((intro p9 h9; repeat (first | (with_reducible exact h9) | (with_reducible refine List.mem_cons_of_mem _ ?_)))))))) (by ((first | assumption | omega | exact fracF_den (by first | assumption | omega)))) (by (with_reducible assumption)) (by (with_reducible assumption)) (Nat.le_trans (by bits_by_make) (by decide)) (Nat.le_trans (by bits_by_make) (by decide)) (by (with_reducible assumption)) (by (with_reducible assumption)) ?_; k_whole; (((intro G8 e8 t8 d8 cx8 hs8 k8 m8 h8 tk8 F8 R8 U8; (try dsimp only)))))) | (k_here; (with_reducible show wpAny _ _ (call (Value.ref 275) _) _ _ _); k_dflt (refine' c_skewOfFX (by k_asm) (by k_asm) (by k_asm) (by k_asm) (by k_asm) (by first | exact rfl | assumption) (by ktr_room) (by ktr_units) (by ((first | exact TupIn.of_news (by k_mem) | exact TupIn.of_K (by k_asm) (by k_is) | exact TupIn.mono (by assumption) (fun _ _ e => e) (by ((intro p9 h9; repeat (first | (with_reducible exact h9) | (with_reducible refine List.mem_cons_of_mem _ ?_))))) | exact TupIn.mono (by assumption) (Fr.keep (by assumption)) (by ((intro p9 h9; repeat (first | (with_reducible exact h9) | (with_reducible refine List.mem_cons_of_mem _ ?_)))))))) (by ((first | assumption | omega | exact fracF_den (by first | assumption | omega)))) (by (with_reducible assumption)) (by (with_reducible assumption)) (Nat.le_trans (by bits_by_make) (by decide)) (Nat.le_trans (by bits_by_make) (by decide)) (by (with_reducible assumption)) (by (with_reducible assumption)) ?_; k_whole; (((intro G8 e8 t8 d8 cx8 hs8 k8 m8 h8 tk8 F8 R8 U8; (try dsimp only))))))) | (k_end; wrow_close) | walk1 | (dsimp only; walk1) | (leave1; walk_say "STEP leave1"; try dsimp only) | fail "no step"))
  all_goals (((refine' end_L (by with_reducible assumption) (by k_asm) (by k_asm) (by k_mem) (by ((intro p9 h9; repeat (first | (with_reducible exact h9) | (with_reducible refine List.mem_cons_of_mem _ ?_))))) (by (first | tbn_find | exact allLt_of (by assumption) | kcu_lt)))))
theorem c_ansFY {A1 : Addr} {a0 a1 : Int} {tn : Tok} (B : Below A₀ base [] h₀) (F : Fr h₀ L s.heap m) (X : (Mine.hd.heap_1 w.params).In h₀) (N : News h₀ L s.heap news) (T : Top p loose mean mg mb h₀) (hk : cs.kind = .function) (hd : dp + 12 < recursionLimit) (hu : un + 96 < cLine) (h1 : TupIn h₀ news A1 a0 a1) (g2 : 0 < a1) (g3 : (turnF a0 a1 (65536 * 65536)).1.1 = 0) (g4 : (turnF a0 a1 10000000000000000000000000000000000000000).1.1 = 0) (s1 : intBits a0 ≤ 64) (s2 : intBits a1 ≤ 64) (XB : (Mine.hd.heap_1 w.params).In base) (TB : Top p loose mean mg mb base)
    (ret : RetL h₀ L m news s Q msgR) :
    wpAny (model Challenge.rw_xm0723_01.row.prog w) (ktrTop dp un gd cn cs L a ccd [] []) (call (.ref 322) [.str (Str.ofString "skewY") tn, .ref A1]) Q E s := by
  w_on
  refine wpAny_call ?_
  k_dflt (((refine' code_defS0 ?k1 ?k2 ?k3 ?k4 ?k5 ?kA ?k6 ?k7 ?k8 ?k9 ?kB ?_ ?cK ?c2 ?c3 ?c4 ?c5; (case kA => exact rfl); (case k2 => k_asm); (case k1 => k_asm); (case k3 => k_asm); (case k4 => k_asm); (case k5 => k_asm); (case k6 => k_is); (case k7 => k_is); (case k8 => ktr_room); (case k9 => first | exact BindsTo.of_eq rfl | exact binds_K (by k_in) rfl (by k_is) rfl rfl rfl); (case kB => exact locs rfl); (case cK => first | exact rfl | assumption); (case c2 => exact rfl); (case c3 => exact rfl); (case c4 => exact rfl); (case c5 => decide); k_whole; intro g' L' h' FG' F' N' B' X' T' D'; (try dsimp only); (try k_fold))))
  (rename Fr h₀ _ _ _ => FG)
  replace h1 := h1.mono FG.keep (fun _ e => e)
  (repeat' (first | (k_unfold; (try dsimp only)) | ((with_reducible show wpAny _ _ (call (Value.ref _) _) _ _ _); first | (k_here; (with_reducible show wpAny _ _ (call (Value.ref 275) _) _ _ _); k_dflt (refine' c_skewOfFY (by k_asm) (by k_asm) (by k_asm) (by k_asm) (by k_asm) (by first | exact rfl | assumption) (by ktr_room) (by ktr_units) (by ((first | exact TupIn.of_news (by k_mem) | exact TupIn.of_K (by k_asm) (by k_is) | exact TupIn.mono (by assumption) (fun _ _ e => e) (by ((intro p9 h9; repeat (first | (with_reducible exact h9) | (with_reducible refine List.mem_cons_of_mem _ ?_))))) | exact TupIn.mono (by assumption) (Fr.keep (by assumption)) (by ((intro p9 h9; repeat (first | (with_reducible exact h9) | (with_reducible refine List.mem_cons_of_mem _ ?_)))))))) (by ((first | assumption | omega | exact fracF_den (by first | assumption | omega)))) (by (with_reducible assumption)) (by (with_reducible assumption)) (Nat.le_trans (by bits_by_make) (by decide)) (Nat.le_trans (by bits_by_make) (by decide)) (by (with_reducible assumption)) (by (with_reducible assumption)) ?_; k_whole; (((intro G8 e8 t8 d8 cx8 hs8 k8 m8 h8 tk8 F8 R8 U8; (try dsimp only)))))) | (k_here; (with_reducible show wpAny _ _ (call (Value.ref 275) _) _ _ _); k_dflt (refine' c_skewOfFX (by k_asm) (by k_asm) (by k_asm) (by k_asm) (by k_asm) (by first | exact rfl | assumption) (by ktr_room) (by ktr_units) (by ((first | exact TupIn.of_news (by k_mem) | exact TupIn.of_K (by k_asm) (by k_is) | exact TupIn.mono (by assumption) (fun _ _ e => e) (by ((intro p9 h9; repeat (first | (with_reducible exact h9) | (with_reducible refine List.mem_cons_of_mem _ ?_))))) | exact TupIn.mono (by assumption) (Fr.keep (by assumption)) (by ((intro p9 h9; repeat (first | (with_reducible exact h9) | (with_reducible refine List.mem_cons_of_mem _ ?_)))))))) (by ((first | assumption | omega | exact fracF_den (by first | assumption | omega)))) (by (with_reducible assumption)) (by (with_reducible assumption)) (Nat.le_trans (by bits_by_make) (by decide)) (Nat.le_trans (by bits_by_make) (by decide)) (by (with_reducible assumption)) (by (with_reducible assumption)) ?_; k_whole; (((intro G8 e8 t8 d8 cx8 hs8 k8 m8 h8 tk8 F8 R8 U8; (try dsimp only))))))) | (k_end; wrow_close) | walk1 | (dsimp only; walk1) | (leave1; walk_say "STEP leave1"; try dsimp only) | fail "no step"))
  refine' xk_caught ?kR ?kF ?kK ?kU ?kX ?kT ?ke ?kq ?kk ?kf ?kl ?kx ?kd
  case kR => assumption
  case kF => with_reducible assumption
  case kK => k_asm
  case kU => with_reducible assumption
  case kX => exact XB
  case kT => exact TB
  case ke => k_is
  case kq => kts_isx
  case kf => exact rfl
  case kl => exact rfl
  case kx => exact rfl
  case kd => decide
  intro h6 g6 T6 tk6 KT6 F6 N6 ne6 K6 X6 P6
  (repeat' (first | (k_unfold; (try dsimp only)) | ((with_reducible show wpAny _ _ (call (Value.ref _) _) _ _ _); first | (k_here; (with_reducible show wpAny _ _ (call (Value.ref 275) _) _ _ _); k_dflt (refine' c_skewOfFY (by k_asm) (by k_asm) (by k_asm) (by k_asm) (by k_asm) (by first | exact rfl | assumption) (by ktr_room) (by ktr_units) (by ((first | exact TupIn.of_news (by k_mem) | exact TupIn.of_K (by k_asm) (by k_is) | exact TupIn.mono (by assumption) (fun _ _ e => e) (by ((intro p9 h9; repeat (first | (with_reducible exact h9) | (with_reducible refine List.mem_cons_of_mem _ ?_))))) | exact TupIn.mono (by assumption) (Fr.keep (by assumption)) (by ((intro p9 h9; repeat (first | (with_reducible exact h9) | (with_reducible refine List.mem_cons_of_mem _ ?_)))))))) (by ((first | assumption | omega | exact fracF_den (by first | assumption | omega)))) (by (with_reducible assumption)) (by (with_reducible assumption)) (Nat.le_trans (by bits_by_make) (by decide)) (Nat.le_trans (by bits_by_make) (by decide)) (by (with_reducible assumption)) (by (with_reducible assumption)) ?_; k_whole; (((intro G8 e8 t8 d8 cx8 hs8 k8 m8 h8 tk8 F8 R8 U8; (try dsimp only)))))) | (k_here; (with_reducible show wpAny _ _ (call (Value.ref 275) _) _ _ _); k_dflt (refine' c_skewOfFX (by k_asm) (by k_asm) (by k_asm) (by k_asm) (by k_asm) (by first | exact rfl | assumption) (by ktr_room) (by ktr_units) (by ((first | exact TupIn.of_news (by k_mem) | exact TupIn.of_K (by k_asm) (by k_is) | exact TupIn.mono (by assumption) (fun _ _ e => e) (by ((intro p9 h9; repeat (first | (with_reducible exact h9) | (with_reducible refine List.mem_cons_of_mem _ ?_))))) | exact TupIn.mono (by assumption) (Fr.keep (by assumption)) (by ((intro p9 h9; repeat (first | (with_reducible exact h9) | (with_reducible refine List.mem_cons_of_mem _ ?_)))))))) (by ((first | assumption | omega | exact fracF_den (by first | assumption | omega)))) (by (with_reducible assumption)) (by (with_reducible assumption)) (Nat.le_trans (by bits_by_make) (by decide)) (Nat.le_trans (by bits_by_make) (by decide)) (by (with_reducible assumption)) (by (with_reducible assumption)) ?_; k_whole; (((intro G8 e8 t8 d8 cx8 hs8 k8 m8 h8 tk8 F8 R8 U8; (try dsimp only))))))) | (k_end; wrow_close) | walk1 | (dsimp only; walk1) | (leave1; walk_say "STEP leave1"; try dsimp only) | fail "no step"))
  all_goals (((refine' end_L (by with_reducible assumption) (by k_asm) (by k_asm) (by k_mem) (by ((intro p9 h9; repeat (first | (with_reducible exact h9) | (with_reducible refine List.mem_cons_of_mem _ ?_))))) (by (first | tbn_find | exact allLt_of (by assumption) | kcu_lt)))))
end
end
section
local macro_rules | `(tactic| ke_read) => `(tactic| first
  | exact reads_K (by k_asm) (by k_asm) (by k_is)
  | exact tup_reads_at (by k_asm) (by k_mem))
local macro_rules | `(tactic| walk_at "compareOp NotEq ref ref") => `(tactic| (k_here; k_dflt (refine' ne_no ?ra ?rb ?sa ?sb ?hu ?he ?_; (case ra => ke_read); (case rb => ke_read); (case sa => ke_shaped); (case sb => ke_shaped); (case hu => ke_room); (case he => (first | rfl | (simp only [PyData.eqv, PyData.eqvAll, beq_self_eq_true, Bool.and_true]; done) | simp [PyData.eqv, PyData.eqvAll])); k_whole)))
local macro_rules | `(tactic| walk_at "compareOp Eq ref ref") => `(tactic| (k_here; k_dflt (refine' eq_yes ?ra ?rb ?sa ?sb ?hu ?he ?_; (case ra => ke_read); (case rb => ke_read); (case sa => ke_shaped); (case sb => ke_shaped); (case hu => ke_room); (case he => (first | rfl | (simp only [PyData.eqv, PyData.eqvAll, beq_self_eq_true, Bool.and_true]; done) | simp [PyData.eqv, PyData.eqvAll])); k_whole)))
local macro_rules | `(tactic| walk_at "binaryOp Mult int int") => `(tactic| (k_here; (with_reducible refine' mul_q ?m0 ?m1 ?m2 ?m3 ?_); (case m0 => with_reducible assumption); (case m1 => with_reducible assumption); (case m2 => with_reducible assumption); (case m3 => with_reducible assumption); intro q9 tq9 hq1 hq2; (try dsimp only)))
theorem law_test : PySem.Challenge.rw_xm0723_01.Holds := by
  w_on; o_law
  refine holds_open (q := vw) (loose := looseL) (Xt := fun s => xlAt vw lvL s && recOk (RowW.records PySem.Challenge.rw_xm0723_01.row.toRowW) s) (XP := XL vw lvL) (Yf := Hook.obs (kHook hd.heap_1 asL (fun _ => by kernel_rfl))) (Ya := Hook.val (kHook hd.heap_1 asL (fun _ => by kernel_rfl))) (YP := Hook.says (kHook hd.heap_1 asL (fun _ => by kernel_rfl))) (N := 4410) ?hl (Hook.of (kHook hd.heap_1 asL (fun _ => by kernel_rfl))) (Hook.keeps (kHook hd.heap_1 asL (fun _ => by kernel_rfl))) (fun s e => xl_of s (Bool.and_eq_true_iff.mp e).1) XL.keeps (by rfl) (by rfl) (by rfl) (fun s e => recFacts_of (Bool.and_eq_true_iff.mp e).2) (by rfl) (by assumption) (by first | k_qdec | decide +kernel) ⟨rfl, rfl, rfl, rfl, rfl, by first | k_qdec | decide +kernel⟩ ?hw ?hc
  case hl => exact fun w => hdChk w
  case hw => w_witness2
  case hc =>
    k_go0
    all_goals (try k_fold)
    (repeat' (first | (k_unfold; (try dsimp only)) | ((with_reducible show wpAny _ _ (call (Value.ref _) _) _ _ _); first | (k_here; (with_reducible show wpAny _ _ (call (Value.ref 322) _) _ _ _); k_dflt (first | ((with_reducible show wpAny _ _ (call (Value.ref 322) [Value.str (Str.ofString "skewX") _, _]) _ _ _); refine' c_ansX (by first | k_asm | exact below_caller _) (by k_asm) (by k_asm) (by k_asm) (by k_asm) (by exact rfl) (by first | ktr_room | decide) (by first | ktr_units | decide) (by (first | exact TupIn.of_news (by k_mem) | exact TupIn.of_K (by k_asm) (by k_is) | exact TupIn.mono (by assumption) (fun _ _ e => e) (by ((intro p9 h9; repeat (first | (with_reducible exact h9) | (with_reducible refine List.mem_cons_of_mem _ ?_))))) | exact TupIn.mono (by assumption) (Fr.keep (by assumption)) (by ((intro p9 h9; repeat (first | (with_reducible exact h9) | (with_reducible refine List.mem_cons_of_mem _ ?_))))))) (by (first | decide | with_reducible exact degF_pos _)) (by (first | with_reducible exact nz_45 | with_reducible exact (deg_facts (by with_reducible assumption) (by with_reducible assumption)).1 | with_reducible exact (q_facts (by with_reducible assumption) (by with_reducible assumption)).1)) (by (first | with_reducible exact (deg_64 (by with_reducible assumption) (by with_reducible assumption) (by with_reducible assumption) (by with_reducible assumption) (by with_reducible assumption)).1 | with_reducible exact (deg_64 (by with_reducible assumption) (by with_reducible assumption) (by with_reducible assumption) (by with_reducible assumption) (by with_reducible assumption)).2 | with_reducible exact (deg_64' (by with_reducible assumption) (by with_reducible assumption)).1 | with_reducible exact (deg_64' (by with_reducible assumption) (by with_reducible assumption)).2 | with_reducible exact right_bits (by with_reducible assumption) (by with_reducible assumption) | decide +kernel)) (by (first | with_reducible exact (deg_64 (by with_reducible assumption) (by with_reducible assumption) (by with_reducible assumption) (by with_reducible assumption) (by with_reducible assumption)).1 | with_reducible exact (deg_64 (by with_reducible assumption) (by with_reducible assumption) (by with_reducible assumption) (by with_reducible assumption) (by with_reducible assumption)).2 | with_reducible exact (deg_64' (by with_reducible assumption) (by with_reducible assumption)).1 | with_reducible exact (deg_64' (by with_reducible assumption) (by with_reducible assumption)).2 | with_reducible exact right_bits (by with_reducible assumption) (by with_reducible assumption) | decide +kernel)) ?_; k_whole; (((unfold RetA; intro D9 C9 S9 c9 t9 u9 v9 w9 c8 c7 h9 tk9 F9 N9 lD lC lS; (try rw [tell_45] at N9); (try with_reducible rw [(deg_facts (by with_reducible assumption) (by with_reducible assumption)).2] at N9); (try dsimp only at N9); clear lD lC lS; (try dsimp only); (try k_sweep); (try k_fold))))) | ((with_reducible show wpAny _ _ (call (Value.ref 322) [Value.str (Str.ofString "skewY") _, _]) _ _ _); refine' c_ansY (by first | k_asm | exact below_caller _) (by k_asm) (by k_asm) (by k_asm) (by k_asm) (by exact rfl) (by first | ktr_room | decide) (by first | ktr_units | decide) (by (first | exact TupIn.of_news (by k_mem) | exact TupIn.of_K (by k_asm) (by k_is) | exact TupIn.mono (by assumption) (fun _ _ e => e) (by ((intro p9 h9; repeat (first | (with_reducible exact h9) | (with_reducible refine List.mem_cons_of_mem _ ?_))))) | exact TupIn.mono (by assumption) (Fr.keep (by assumption)) (by ((intro p9 h9; repeat (first | (with_reducible exact h9) | (with_reducible refine List.mem_cons_of_mem _ ?_))))))) (by (first | decide | with_reducible exact degF_pos _)) (by (first | with_reducible exact nz_45 | with_reducible exact (deg_facts (by with_reducible assumption) (by with_reducible assumption)).1 | with_reducible exact (q_facts (by with_reducible assumption) (by with_reducible assumption)).1)) (by (first | with_reducible exact (deg_64 (by with_reducible assumption) (by with_reducible assumption) (by with_reducible assumption) (by with_reducible assumption) (by with_reducible assumption)).1 | with_reducible exact (deg_64 (by with_reducible assumption) (by with_reducible assumption) (by with_reducible assumption) (by with_reducible assumption) (by with_reducible assumption)).2 | with_reducible exact (deg_64' (by with_reducible assumption) (by with_reducible assumption)).1 | with_reducible exact (deg_64' (by with_reducible assumption) (by with_reducible assumption)).2 | with_reducible exact right_bits (by with_reducible assumption) (by with_reducible assumption) | decide +kernel)) (by (first | with_reducible exact (deg_64 (by with_reducible assumption) (by with_reducible assumption) (by with_reducible assumption) (by with_reducible assumption) (by with_reducible assumption)).1 | with_reducible exact (deg_64 (by with_reducible assumption) (by with_reducible assumption) (by with_reducible assumption) (by with_reducible assumption) (by with_reducible assumption)).2 | with_reducible exact (deg_64' (by with_reducible assumption) (by with_reducible assumption)).1 | with_reducible exact (deg_64' (by with_reducible assumption) (by with_reducible assumption)).2 | with_reducible exact right_bits (by with_reducible assumption) (by with_reducible assumption) | decide +kernel)) ?_; k_whole; (((unfold RetA; intro D9 C9 S9 c9 t9 u9 v9 w9 c8 c7 h9 tk9 F9 N9 lD lC lS; (try rw [tell_45] at N9); (try with_reducible rw [(deg_facts (by with_reducible assumption) (by with_reducible assumption)).2] at N9); (try dsimp only at N9); clear lD lC lS; (try dsimp only); (try k_sweep); (try k_fold))))) | ((with_reducible show wpAny _ _ (call (Value.ref 322) [Value.str (Str.ofString "skewX") _, _]) _ _ _); refine' c_ansFX (by first | k_asm | exact below_caller _) (by k_asm) (by k_asm) (by k_asm) (by k_asm) (by exact rfl) (by first | ktr_room | decide) (by first | ktr_units | decide) (by (first | exact TupIn.of_news (by k_mem) | exact TupIn.of_K (by k_asm) (by k_is) | exact TupIn.mono (by assumption) (fun _ _ e => e) (by ((intro p9 h9; repeat (first | (with_reducible exact h9) | (with_reducible refine List.mem_cons_of_mem _ ?_))))) | exact TupIn.mono (by assumption) (Fr.keep (by assumption)) (by ((intro p9 h9; repeat (first | (with_reducible exact h9) | (with_reducible refine List.mem_cons_of_mem _ ?_))))))) (by (first | decide | with_reducible exact degF_pos _)) (by with_reducible exact (right_facts (by with_reducible assumption) (by with_reducible assumption)).1) (by with_reducible exact (right_facts (by with_reducible assumption) (by with_reducible assumption)).2) (by (first | with_reducible exact (deg_64 (by with_reducible assumption) (by with_reducible assumption) (by with_reducible assumption) (by with_reducible assumption) (by with_reducible assumption)).1 | with_reducible exact (deg_64 (by with_reducible assumption) (by with_reducible assumption) (by with_reducible assumption) (by with_reducible assumption) (by with_reducible assumption)).2 | with_reducible exact (deg_64' (by with_reducible assumption) (by with_reducible assumption)).1 | with_reducible exact (deg_64' (by with_reducible assumption) (by with_reducible assumption)).2 | with_reducible exact right_bits (by with_reducible assumption) (by with_reducible assumption) | decide +kernel)) (by (first | with_reducible exact (deg_64 (by with_reducible assumption) (by with_reducible assumption) (by with_reducible assumption) (by with_reducible assumption) (by with_reducible assumption)).1 | with_reducible exact (deg_64 (by with_reducible assumption) (by with_reducible assumption) (by with_reducible assumption) (by with_reducible assumption) (by with_reducible assumption)).2 | with_reducible exact (deg_64' (by with_reducible assumption) (by with_reducible assumption)).1 | with_reducible exact (deg_64' (by with_reducible assumption) (by with_reducible assumption)).2 | with_reducible exact right_bits (by with_reducible assumption) (by with_reducible assumption) | decide +kernel)) (by k_asm) (by k_asm) ?_; k_whole; (((unfold RetL; intro D9 t9 c9 h9 tk9 F9 N9 lD; clear lD; (try dsimp only); (try k_sweep); (try k_fold))))) | ((with_reducible show wpAny _ _ (call (Value.ref 322) [Value.str (Str.ofString "skewY") _, _]) _ _ _); refine' c_ansFY (by first | k_asm | exact below_caller _) (by k_asm) (by k_asm) (by k_asm) (by k_asm) (by exact rfl) (by first | ktr_room | decide) (by first | ktr_units | decide) (by (first | exact TupIn.of_news (by k_mem) | exact TupIn.of_K (by k_asm) (by k_is) | exact TupIn.mono (by assumption) (fun _ _ e => e) (by ((intro p9 h9; repeat (first | (with_reducible exact h9) | (with_reducible refine List.mem_cons_of_mem _ ?_))))) | exact TupIn.mono (by assumption) (Fr.keep (by assumption)) (by ((intro p9 h9; repeat (first | (with_reducible exact h9) | (with_reducible refine List.mem_cons_of_mem _ ?_))))))) (by (first | decide | with_reducible exact degF_pos _)) (by with_reducible exact (right_facts (by with_reducible assumption) (by with_reducible assumption)).1) (by with_reducible exact (right_facts (by with_reducible assumption) (by with_reducible assumption)).2) (by (first | with_reducible exact (deg_64 (by with_reducible assumption) (by with_reducible assumption) (by with_reducible assumption) (by with_reducible assumption) (by with_reducible assumption)).1 | with_reducible exact (deg_64 (by with_reducible assumption) (by with_reducible assumption) (by with_reducible assumption) (by with_reducible assumption) (by with_reducible assumption)).2 | with_reducible exact (deg_64' (by with_reducible assumption) (by with_reducible assumption)).1 | with_reducible exact (deg_64' (by with_reducible assumption) (by with_reducible assumption)).2 | with_reducible exact right_bits (by with_reducible assumption) (by with_reducible assumption) | decide +kernel)) (by (first | with_reducible exact (deg_64 (by with_reducible assumption) (by with_reducible assumption) (by with_reducible assumption) (by with_reducible assumption) (by with_reducible assumption)).1 | with_reducible exact (deg_64 (by with_reducible assumption) (by with_reducible assumption) (by with_reducible assumption) (by with_reducible assumption) (by with_reducible assumption)).2 | with_reducible exact (deg_64' (by with_reducible assumption) (by with_reducible assumption)).1 | with_reducible exact (deg_64' (by with_reducible assumption) (by with_reducible assumption)).2 | with_reducible exact right_bits (by with_reducible assumption) (by with_reducible assumption) | decide +kernel)) (by k_asm) (by k_asm) ?_; k_whole; (((unfold RetL; intro D9 t9 c9 h9 tk9 F9 N9 lD; clear lD; (try dsimp only); (try k_sweep); (try k_fold))))))) | (k_here; (with_reducible show wpAny _ _ (call (Value.ref 315) _) _ _ _); k_dflt (refine' c_lnearL (by first | k_asm | exact below_caller _) (by k_asm) (by k_asm) (by k_asm) (by k_asm) (by exact rfl) (by first | ktr_room | decide) (by first | ktr_units | decide) (by exact rfl) (by exact rfl) (by exact rfl) (by exact rfl) (by k_mem) (by k_mem) (by k_mem) (by k_mem) (by k_mem) (by with_reducible exact (q_facts (by with_reducible assumption) (by with_reducible assumption)).2.2.1) (by with_reducible assumption) (by with_reducible assumption) (by with_reducible exact (q_facts (by with_reducible assumption) (by with_reducible assumption)).2.2.2.1) (by with_reducible exact (q_facts (by with_reducible assumption) (by with_reducible assumption)).2.2.2.2.1) (by with_reducible exact (q_facts (by with_reducible assumption) (by with_reducible assumption)).2.2.2.2.2.1) (by with_reducible exact (q_facts (by with_reducible assumption) (by with_reducible assumption)).2.2.2.2.2.2.1) (by with_reducible exact (q_facts (by with_reducible assumption) (by with_reducible assumption)).2.2.2.2.2.2.2) ?_; k_whole; (((unfold RetB; intro h9 tk9 F9 N9; (try dsimp only); (try k_sweep); (try k_fold)))))) | (k_here; (with_reducible show wpAny _ _ (call (Value.ref 301) _) _ _ _); k_dflt (refine' c_deg (by first | k_asm | exact below_caller _) (by k_asm) (by k_asm) (by k_asm) (by k_asm) (by exact rfl) (by first | ktr_room | decide) (by first | ktr_units | decide) (by first | with_reducible exact deg_50 (by with_reducible assumption) (by with_reducible assumption) (by with_reducible assumption) (by with_reducible assumption) (by with_reducible assumption) | with_reducible exact deg_50' (by with_reducible assumption) (by with_reducible assumption)) ?_; k_whole; (((unfold RetT; intro D9 t9 u9 c9 h9 tk9 F9 N9 l9; (try simp only [AllLt, and_true] at l9); (try dsimp only); (try k_sweep); (try k_fold)))))) | (k_here; (with_reducible show wpAny _ _ (call (Value.ref 296) _) _ _ _); k_dflt (first | (refine' c_one3L (by first | k_asm | exact below_caller _) (by k_asm) (by k_asm) (by k_asm) (by k_asm) (by exact rfl) (by first | ktr_room | decide) (by first | ktr_units | decide) (by exact rfl) (by exact rfl) (by with_reducible exact List.mem_cons_self) (by k_mem) (by k_mem) (by k_mem) (by (first | exact Nat.ne_of_gt (And.left (by with_reducible assumption)) | exact Nat.ne_of_gt (And.left (And.right (by with_reducible assumption))))) (by with_reducible assumption) (by with_reducible assumption) (by with_reducible assumption) (by with_reducible assumption) ?_; k_whole; (((unfold RetO; intro v9 x9 y9 t9 u9 c9 h9 tk9 P9 q2 q3 F9 N9; obtain ⟨k9, kt9, e9, hk9⟩ := P9; subst e9; (have b9 : intBits k9 ≤ 64 := by first | exact one3_bits hk9 (by with_reducible assumption) | exact one2_bits hk9 | exact turns_bits hk9 (by with_reducible assumption) (by with_reducible assumption)); (try dsimp only); (try k_sweep); (try k_fold))))) | (refine' c_one2L (by first | k_asm | exact below_caller _) (by k_asm) (by k_asm) (by k_asm) (by k_asm) (by exact rfl) (by first | ktr_room | decide) (by first | ktr_units | decide) (by exact rfl) (by exact rfl) (by with_reducible exact List.mem_cons_self) (by k_mem) (by k_mem) (by k_mem) (by (first | exact Nat.ne_of_gt (And.left (by with_reducible assumption)) | exact Nat.ne_of_gt (And.left (And.right (by with_reducible assumption))))) (by with_reducible assumption) (by with_reducible assumption) (by with_reducible assumption) (by with_reducible assumption) ?_; k_whole; (((unfold RetO; intro v9 x9 y9 t9 u9 c9 h9 tk9 P9 q2 q3 F9 N9; obtain ⟨k9, kt9, e9, hk9⟩ := P9; subst e9; (have b9 : intBits k9 ≤ 64 := by first | exact one3_bits hk9 (by with_reducible assumption) | exact one2_bits hk9 | exact turns_bits hk9 (by with_reducible assumption) (by with_reducible assumption)); (try dsimp only); (try k_sweep); (try k_fold))))) | (refine' c_oneSL (by first | k_asm | exact below_caller _) (by k_asm) (by k_asm) (by k_asm) (by k_asm) (by exact rfl) (by first | ktr_room | decide) (by first | ktr_units | decide) (by exact rfl) (by with_reducible exact List.mem_cons_self) (by k_mem) (by k_mem) (by (first | exact Nat.ne_of_gt (And.left (by with_reducible assumption)) | exact Nat.ne_of_gt (And.left (And.right (by with_reducible assumption))))) (by (first | exact Nat.ne_of_gt (And.left (by with_reducible assumption)) | exact Nat.ne_of_gt (And.left (And.right (by with_reducible assumption))))) (by with_reducible assumption) (by with_reducible assumption) ?_; k_whole; (((unfold RetO; intro v9 x9 y9 t9 u9 c9 h9 tk9 P9 q2 q3 F9 N9; obtain ⟨k9, kt9, e9, hk9⟩ := P9; subst e9; rcases hk9 with e8 | e8 <;> (subst e8; (try dsimp only); (try k_sweep); (try k_fold)))))))) | (k_here; (with_reducible show wpAny _ _ (call (Value.ref 289) _) _ _ _); k_dflt (refine' c_takeL (by first | k_asm | exact below_caller _) (by k_asm) (by k_asm) (by k_asm) (by k_asm) (by exact rfl) (by first | ktr_room | decide) (by first | ktr_units | decide) (by exact rfl) (by exact rfl) (by k_mem) (by k_mem) (by k_mem) (by with_reducible assumption) (by with_reducible assumption) (by with_reducible assumption) (by decide) (by decide +kernel) (by with_reducible assumption) ?_; k_whole; (((unfold RetK; intro r9 x9 y9 k9 t9 u9 c9 h9 tk9 q0 q1 q2 q3 F9 N9; (have b9 := r_bits q0 q1 (by decide)); (try dsimp only); (try k_sweep); (try k_fold)))))) | (k_here; (with_reducible show wpAny _ _ (call (Value.ref 282) _) _ _ _); k_dflt (refine' c_poolL (by first | k_asm | exact below_caller _) (by k_asm) (by k_asm) (by k_asm) (by k_asm) (by exact rfl) (by first | ktr_room | decide) (by first | ktr_units | decide) (by with_reducible assumption) (by with_reducible assumption) (by first | exact len63 (by with_reducible assumption) | exact len63 (by assumption) | omega) (by exact rfl) (by exact rfl) (by k_mem) (by k_mem) ?_; k_whole; (intro S9 x9 y9 t9 u9 c9 h9 tk9 q0 q1 n8 n9 F9 N9; (try dsimp only); (try k_sweep); (try k_fold))))) | (k_end; wrow_close) | walk1 | (dsimp only; walk1) | (leave1; walk_say "STEP leave1"; try dsimp only) | fail "no step"))
end
end Mine
theorem PySem.Challenge.cw_xm0723_01_holds : PySem.Challenge.rw_xm0723_01.Holds :=
  Mine.law_test
