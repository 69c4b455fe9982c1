/-
  Parts of the proof, merged: ChartQ, ChartH, ChartR, ChartW, ChartX, ChartY, ChartN, ChartJ, ChartK, ChartRow, ChartL, ChartS.
-/
import Derived.Test.YtmhnmddljmllpaaGreatM5
set_option linter.unusedVariables false
set_option linter.unusedSimpArgs false
section
set_option linter.unusedVariables false
namespace Go.Num
theorem swStep_len (w : Sw) (a : Q2) : (swOut (swStep w a)).length ≤ (swOut w).length + 1 := by
 match w with
 | none => simp [swStep, swOut]
 | some (o, z) => simp only [swStep]; split <;> simp [swOut]
theorem fold_len : ∀ (l : List Q2) (w : Sw), (swOut (l.foldl swStep w)).length ≤ (swOut w).length + l.length
 | [], w => by simp
 | a :: l, w => by
  have h1 := fold_len l (swStep w a)
  have h2 := swStep_len w a
  simp only [List.foldl_cons, List.length_cons]
  omega
theorem nrm_len (l : List Q2) : (nrm l).length ≤ l.length := by
 have := fold_len (l.mergeSort fun a b => decide (a.1 ≤ b.1)) none
 simpa [nrm, sweep, swOut] using this
def In01 (l : List Q2) : Prop := ∀ a ∈ l, 0 ≤ a.1 ∧ a.2 ≤ 1
theorem in01_mem {l : List Q2} (h : In01 l) {x : Rat} (hx : memL x l) : 0 ≤ x ∧ x < 1 := by
 obtain ⟨a, ha, h1, h2⟩ := hx
 obtain ⟨h3, h4⟩ := h a ha
 exact ⟨by grind, by grind⟩
theorem in01_of {l : List Q2} (hp : Pos l) (h : ∀ x, memL x l → 0 ≤ x ∧ x < 1) : In01 l := by
 intro a ha
 have h0 := hp a ha
 refine ⟨(h a.1 ⟨a, ha, Rat.le_refl, h0⟩).1, ?_⟩
 refine Rat.not_lt.1 fun h1 => ?_
 by_cases h2 : a.1 ≤ 1
 ·have := (h 1 ⟨a, ha, h2, h1⟩).2
  exact absurd this (by decide)
 ·have h3 := (h a.1 ⟨a, ha, Rat.le_refl, h0⟩).2
  exact h2 (Rat.le_of_lt h3)
theorem nrm_in {l : List Q2} (hp : Pos l) (h : In01 l) : In01 (nrm l) := by
 obtain ⟨k1, k2, k3⟩ := nrm_ok hp
 exact in01_of k1 fun x hx => in01_mem h ((k3 x).1 hx)
theorem nrm_eq {l m : List Q2} (hp : Pos l) (hm : Pos m) (ha : Apart m) (he : ∀ x, memL x l ↔ memL x m) : nrm l = m := by
 obtain ⟨k1, k2, k3⟩ := nrm_ok hp
 exact chart_ext k1 k2 hm ha fun x => (k3 x).trans (he x)
theorem nrm_nrm {l : List Q2} (hp : Pos l) : nrm (nrm l) = nrm l := by
 obtain ⟨k1, k2, k3⟩ := nrm_ok hp
 exact nrm_eq k1 k1 k2 fun x => Iff.rfl
theorem nrm_eq_iff {l m : List Q2} (hp : Pos l) (hm : Pos m) : nrm l = nrm m ↔ ∀ x, memL x l ↔ memL x m := by
 obtain ⟨k1, k2, k3⟩ := nrm_ok hp
 obtain ⟨j1, j2, j3⟩ := nrm_ok hm
 constructor
 ·intro h x
  rw [← k3 x, h, j3 x]
 ·intro h
  exact chart_ext k1 k2 j1 j2 fun x => (k3 x).trans ((h x).trans (j3 x).symm)
theorem max_le_mark : ∀ (M : List Rat) (x : Rat), (∃ m ∈ M, m ≤ x) → ∃ m ∈ M, m ≤ x ∧ ∀ k ∈ M, k ≤ x → k ≤ m
 | [], x, h => by obtain ⟨m, hm, _⟩ := h; simp at hm
 | a :: M, x, h => by
  by_cases hM : ∃ m ∈ M, m ≤ x
  ·obtain ⟨m, hm, hx, hk⟩ := max_le_mark M x hM
   by_cases ha : a ≤ x
   ·by_cases hma : m ≤ a
    ·refine ⟨a, by simp, ha, fun k hk1 hk2 => ?_⟩
     rcases List.mem_cons.1 hk1 with rfl | hk1
     ·exact Rat.le_refl
     ·exact Rat.le_trans (hk k hk1 hk2) hma
    ·refine ⟨m, by simp [hm], hx, fun k hk1 hk2 => ?_⟩
     rcases List.mem_cons.1 hk1 with rfl | hk1
     ·exact Rat.le_of_lt (Rat.not_le.1 hma)
     ·exact hk k hk1 hk2
   ·refine ⟨m, by simp [hm], hx, fun k hk1 hk2 => ?_⟩
    rcases List.mem_cons.1 hk1 with rfl | hk1
    ·exact absurd hk2 ha
    ·exact hk k hk1 hk2
  ·obtain ⟨m, hm, hx⟩ := h
   rcases List.mem_cons.1 hm with rfl | hm
   ·refine ⟨m, by simp, hx, fun k hk1 hk2 => ?_⟩
    rcases List.mem_cons.1 hk1 with rfl | hk1
    ·exact Rat.le_refl
    ·exact absurd ⟨k, hk1, hk2⟩ hM
   ·exact absurd ⟨m, hm, hx⟩ hM
theorem mark_same {M : List Rat} {l : List Q2} {m x : Rat} (hf : ∀ a ∈ l, a.1 ∈ M) (ht : ∀ a ∈ l, a.2 ≤ x → a.2 ∈ M) (hmx : m ≤ x) (hm : ∀ k ∈ M, k ≤ x → k ≤ m) : memL m l ↔ memL x l := by
 constructor
 ·rintro ⟨a, ha, h1, h2⟩
  refine ⟨a, ha, Rat.le_trans h1 hmx, Rat.not_le.1 fun h => ?_⟩
  have := hm _ (ht a ha h) h
  grind
 ·rintro ⟨a, ha, h1, h2⟩
  exact ⟨a, ha, hm _ (hf a ha) h1, by grind⟩
theorem marks_tell {M : List Rat} {l m : List Q2} (hf : ∀ a ∈ l, a.1 ∈ M) (ht : ∀ a ∈ l, a.2 < 1 → a.2 ∈ M) (hf' : ∀ a ∈ m, a.1 ∈ M) (ht' : ∀ a ∈ m, a.2 < 1 → a.2 ∈ M)
  (hl : In01 l) (hm : In01 m) (he : ∀ k ∈ M, memL k l ↔ memL k m) (x : Rat) : memL x l ↔ memL x m := by
 by_cases hx : x < 1
 ·by_cases h : ∃ k ∈ M, k ≤ x
  ·obtain ⟨k, hk, hkx, hmax⟩ := max_le_mark M x h
   rw [← mark_same hf (fun a ha h => ht a ha (by grind)) hkx hmax, ← mark_same hf' (fun a ha h => ht' a ha (by grind)) hkx hmax]
   exact he k hk
  ·constructor
   ·rintro ⟨a, ha, h1, h2⟩; exact absurd ⟨a.1, hf a ha, h1⟩ h
   ·rintro ⟨a, ha, h1, h2⟩; exact absurd ⟨a.1, hf' a ha, h1⟩ h
 ·constructor
  ·intro h; exact absurd (in01_mem hl h).2 hx
  ·intro h; exact absurd (in01_mem hm h).2 hx
end Go.Num
end
section
set_option linter.unusedVariables false
set_option linter.unusedSimpArgs false
set_option maxRecDepth 100000
namespace Go.Num
theorem awake_n : nrm [(Rat.divInt 1 2, Rat.divInt 3 4), (Rat.divInt 1 4, Rat.divInt 1 2)] = [(Rat.divInt 1 4, Rat.divInt 3 4)] := by
 have h := sweep_eq (l := [(Rat.divInt 1 2, Rat.divInt 3 4), (Rat.divInt 1 4, Rat.divInt 1 2)]) (s := [(Rat.divInt 1 4, Rat.divInt 1 2), (Rat.divInt 1 2, Rat.divInt 3 4)])
  (by unfold Pos; decide +kernel) (List.Perm.swap _ _ _) (by unfold SortQ; decide +kernel)
 rw [← h]
 decide +kernel
theorem awake_sh : shL (Rat.divInt 1 2) [(Rat.divInt 1 2, Rat.divInt 3 4), (Rat.divInt 1 4, Rat.divInt 1 2)] = [(0, Rat.divInt 1 4), (Rat.divInt 3 4, 1)] := by decide +kernel
theorem awake_s : nrm [(0, Rat.divInt 1 4), (Rat.divInt 3 4, 1)] = [(0, Rat.divInt 1 4), (Rat.divInt 3 4, 1)] := by
 have h := sweep_eq (l := [(0, Rat.divInt 1 4), (Rat.divInt 3 4, 1)]) (s := [(0, Rat.divInt 1 4), (Rat.divInt 3 4, 1)])
  (by unfold Pos; decide +kernel) (List.Perm.refl _) (by unfold SortQ; decide +kernel)
 rw [← h]
 decide +kernel
def ValQ (l : List Q2) : Prop := Pos l ∧ In01 l
theorem badA_can {q : Q2} (h : 0 ≤ q.1 ∧ q.2 ≤ 1 ∧ q.1 < q.2) : badA (acan q) = false :=
 badA_f.2 ⟨vld_rcan _, vld_rcan _, by simp only [acan, rv_rcan]; exact h.1, by simp only [acan, rv_rcan]; exact h.2.1, by simp only [acan, rv_rcan]; exact h.2.2⟩
theorem chk_can {l : List Q2} (hl : l.length ≤ 64) (hp : Pos l) (hi : In01 l) : chk [l.map acan] = 0 := by
 rw [chk_1]
 unfold chk1
 rw [if_neg (by simp; omega), if_neg]
 intro h
 obtain ⟨x, hx, hb⟩ := List.any_eq_true.1 h
 obtain ⟨q, hq, rfl⟩ := List.mem_map.1 hx
 rw [badA_can ⟨(hi q hq).1, (hi q hq).2, hp q hq⟩] at hb
 exact absurd hb (by simp)
theorem WLA_cans (l : List Q2) : ∀ z ∈ l.map acan, WLA z := fun z hz => by
 obtain ⟨q, _, rfl⟩ := List.mem_map.1 hz
 exact WLA_can q
theorem okAs_can {b : Nat} {l : List Q2} (h : ∀ q ∈ l, rz q.1 ≤ b ∧ rz q.2 ≤ b) : okAs b (l.map acan) := fun z hz => by
 obtain ⟨q, hq, rfl⟩ := List.mem_map.1 hz
 exact okA_can (h q hq).1 (h q hq).2
end Go.Num
namespace Go.Abs
open Go.Num
variable {P : Program} {Γ : Nat → Spec}
theorem onAs_1 (k : List Arc → Prop) (x y : R) : onAs k (.one (.slice [[cb x, cn x, cd x, cb y, cn y, cd y]])) = ((∀ z ∈ [(x, y)], WLA z) ∧ k [(x, y)]) := onAs_e k [(x, y)]
theorem onAs_2 (k : List Arc → Prop) (x y x' y' : R) : onAs k (.one (.slice [[cb x, cn x, cd x, cb y, cn y, cd y], [cb x', cn x', cd x', cb y', cn y', cd y']])) = ((∀ z ∈ [(x, y), (x', y')], WLA z) ∧ k [(x, y), (x', y')]) := onAs_e k [(x, y), (x', y')]
theorem onAs_x1 (k : List Arc → Prop) (x : Arc) : onAs k (.one (.slice [aC x])) = ((∀ z ∈ [x], WLA z) ∧ k [x]) := onAs_e k [x]
theorem onAs_x2 (k : List Arc → Prop) (x y : Arc) : onAs k (.one (.slice [aC x, aC y])) = ((∀ z ∈ [x, y], WLA z) ∧ k [x, y]) := onAs_e k [x, y]
theorem onAs_z2 (k : List Arc → Prop) (y x' y' : R) : onAs k (.one (.slice [[.lit (.bool false), .slice [], .slice [], cb y, cn y, cd y], [cb x', cn x', cd x', cb y', cn y', cd y']])) = ((∀ z ∈ [(rcan 0, y), (x', y')], WLA z) ∧ k [(rcan 0, y), (x', y')]) := by
 rw [rcan_zero]; exact onAs_e k [((false, [], []), y), (x', y')]
attribute [go_sem] onAs_1 onAs_2 onAs_x1 onAs_x2 onAs_z2
attribute [go_sem ↓] onAs_1 onAs_2 onAs_x1 onAs_x2 onAs_z2
def lawake_G (l : List AV) (K : AV → Prop) : Prop :=
 match l with
 | [] => K (.one (.lit (.bool true)))
 | _ => False
theorem lawake_Ge (K : AV → Prop) : lawake_G [] K = (K (.one (.lit (.bool true)))) := propext Iff.rfl
@[congr] theorem lawake_Gc {K : AV → Prop} {l l' : List AV} (h : l = l') : lawake_G l K = lawake_G l' K := by subst h; rfl
attribute [go_sem] lawake_Ge
attribute [go_sem ↓] lawake_Ge
theorem lawake_good : Good lawake_G := good_of fun as => by
 unfold lawake_G
 split
 ·repeat (first | exact .ret _ | exact .of (fun K hk => hk.elim) | (refine .and fun _ => ?_) | (refine g_onWs fun _ => ?_) | (refine g_onR fun _ => ?_) | (refine g_onAs fun _ => ?_) | (refine g_onA fun _ => ?_) | (refine g_asInt (fun _ _ => ?_) _) | (refine g_asBool (fun _ => ?_) _) | (refine g_onE ?_ ?_) | (intro _) | assumption)
 ·exact .of fun K hk => hk.elim
def ac_linkworklaw54_awake (f0 f1 f2 f3 : Nat) : AC := (.seq (.ops false [.m 0 .fa])
 (.fg [] (.seq (.ops false [.u 6 (.call f0 [(.i 1), (.i 2)]), .u 7 (.call f0 [(.i 3), (.i 4)]), .u 8 (.build [.x 3 (.t 6), .x 3 (.t 7)]), .u 9 (.call f0 [(.i 1), (.i 4)]), .u 10 (.call f0 [(.i 1), (.i 2)]), .u 11 (.build [.x 3 (.t 9), .x 3 (.t 10)]), .u 12 (.row 6 [[.x 6 (.t 8)], [.x 6 (.t 11)]]), .m 1 (.t 12)])
 (.fg [1] (.seq (.ops false [.m 14 (.t 1), .u 15 (.call f1 [(.t 14)]), .m 13 (.t 15), .u 16 (.ext 0 (.t 13)), .u 17 (.ext 1 (.t 13)), .m 2 (.t 16), .m 3 (.t 17)])
 (.fg [1, 2, 3] (.seq (.ops false [.m 19 (.t 1), .u 20 (.call f0 [(.i 1), (.i 2)]), .u 21 (.call f2 [(.t 19), (.t 20)]), .m 18 (.t 21), .u 22 (.ext 0 (.t 18)), .u 23 (.ext 1 (.t 18)), .m 4 (.t 22), .m 5 (.t 23)])
 (.fg [2, 3, 4, 5] (.seq (.ops false [.m 24 (.t 3), .u 25 (.binn .eql (.t 24) (.c (.one (.lit .nilIface)))), .m 26 (.t 25), .w 27 26 true (.mv (.t 5)), .w 28 26 true (.binn .eql (.t 27) (.c (.one (.lit .nilIface)))), .u 29 (.pick (.t 26) (.t 28) .fa), .m 30 (.t 29), .w 31 30 true (.mv (.t 2)), .w 32 30 true (.call f0 [(.i 1), (.i 4)]), .w 33 30 true (.call f0 [(.i 3), (.i 4)]), .w 34 30 true (.build [.x 3 (.t 32), .x 3 (.t 33)]), .w 35 30 true (.row 6 [[.x 6 (.t 34)]]), .w 36 30 true (.call f3 [(.t 31), (.t 35)]), .u 37 (.pick (.t 30) (.t 36) .fa), .m 38 (.t 37), .w 39 38 true (.mv (.t 4)), .w 40 38 true (.call f0 [(.i 1), (.i 4)]), .w 41 38 true (.build [.z [(.lit (.bool false)), .emp, .emp], .x 3 (.t 40)]), .w 42 38 true (.call f0 [(.i 3), (.i 4)]), .w 43 38 true (.call f0 [(.i 1), (.i 1)]), .w 44 38 true (.build [.x 3 (.t 42), .x 3 (.t 43)]), .w 45 38 true (.row 6 [[.x 6 (.t 41)], [.x 6 (.t 44)]]), .w 46 38 true (.call f3 [(.t 39), (.t 45)]), .u 47 (.pick (.t 38) (.t 46) .fa), .m 0 (.t 47)])
 .ret)))))))))
theorem lawake_sound (hΓ : Holds P Γ) {f fp fn fs fe tE m m' : Nat} (hm : 2 ≤ m) (hm' : 4 ≤ m') (hp : Γ fp = .dat false rpart_G) (hn : Γ fn = .dat false (cNorm_G tE m)) (hs : Γ fs = .dat false (cShift_G tE m')) (he : Γ fe = .dat true rsame_G) (hc : check P f = some (48, (ac_linkworklaw54_awake fp fn fs fe).strip, [.tmp 0])) : Sound P f (.dat true lawake_G) := by
 refine sound_dat hc lawake_good hΓ (fun args K hcl hfi hG => ?_)
 match args, hG with
 | [], hK =>
  simp only [lawake_G] at hK
  refine ⟨by simp, ?_⟩
  obtain ⟨A, hA⟩ : ∃ A, A = [(rcan (Rat.divInt 1 2), rcan (Rat.divInt 3 4)), (rcan (Rat.divInt 1 4), rcan (Rat.divInt 1 2))] := ⟨_, rfl⟩
  have hv : vals A = [(Rat.divInt 1 2, Rat.divInt 3 4), (Rat.divInt 1 4, Rat.divInt 1 2)] := by rw [hA]; simp [vals, av, rv_rcan]
  have hAc : A = [(Rat.divInt 1 2, Rat.divInt 3 4), (Rat.divInt 1 4, Rat.divInt 1 2)].map acan := by rw [hA]; rfl
  have hk : chk [A] = 0 := by rw [hAc]; exact chk_can (by decide) (by unfold Pos; decide +kernel) (by unfold In01; decide +kernel)
  have hw : ∀ z ∈ A, WLA z := by
   rw [hAc]; intro z hz
   obtain ⟨q, _, rfl⟩ := List.mem_map.1 hz
   exact WLA_can q
  have hz : ∀ q ∈ [Rat.divInt 1 2, Rat.divInt 3 4, Rat.divInt 1 4, 1, 0], rz q ≤ 1000000 := by
   have h2 : ∀ n : Int, n.natAbs ≤ 4 → zs n ≤ 2 := fun n hn => zs_of (by omega)
   intro q hq
   refine Nat.le_trans (rz_le (s := 2) (h2 _ ?_) (h2 _ ?_)) (by decide) <;> revert q <;> decide +kernel
  have ho : okAs 10000000 A := by
   rw [hA]; intro z hz'
   simp only [List.mem_cons, List.not_mem_nil, or_false] at hz'
   rcases hz' with rfl | rfl
   ·exact ⟨⟨WLR_rcan _, WLR_rcan _⟩, Nat.max_le.2 ⟨Nat.le_trans (hz _ (by simp)) (by decide), Nat.le_trans (hz _ (by simp)) (by decide)⟩⟩
   ·exact ⟨⟨WLR_rcan _, WLR_rcan _⟩, Nat.max_le.2 ⟨Nat.le_trans (hz _ (by simp)) (by decide), Nat.le_trans (hz _ (by simp)) (by decide)⟩⟩
  have hs1 : shOut A (rcan (Rat.divInt 1 2)) = [(0, Rat.divInt 1 4), (Rat.divInt 3 4, 1)] := by
   unfold shOut
   rw [if_pos ⟨hk, vld_rcan _⟩, rv_rcan, hv, awake_sh, awake_s]; rfl
  have hs2 : shCode A (rcan (Rat.divInt 1 2)) = 0 := by
   unfold shCode
   rw [if_pos hk, if_pos (vld_rcan _), rv_rcan, hv, awake_sh, awake_s]; rfl
  simp only [go_sem, ↓reduceIte, Nat.reduceEqDiff, Nat.reduceAdd, Nat.reduceLT, Nat.reduceLeDiff, Int.reduceToNat, Nat.reducePow, Nat.reduceMul, reduceCtorEq, ac_linkworklaw54_awake, hp, hn, hs, he, ← hA, hk, hv, hs1, hs2, errV_0, awake_n]
  have hl : A.length = 2 := by rw [hA]; rfl
  have ho2 : okAs 4294967296 A := okAs_mono ho (by decide)
  have hz' : ∀ q ∈ [Rat.divInt 1 2, Rat.divInt 3 4, Rat.divInt 1 4, 1, 0], rz q ≤ 1073741824 := fun q hq => Nat.le_trans (hz q hq) (by decide)
  have e1 : vals [(rcan (Rat.divInt 1 4), rcan (Rat.divInt 3 4))] = [(Rat.divInt 1 4, Rat.divInt 3 4)] := vals_can [(Rat.divInt 1 4, Rat.divInt 3 4)]
  have e2 : vals [acan (Rat.divInt 1 4, Rat.divInt 3 4)] = [(Rat.divInt 1 4, Rat.divInt 3 4)] := vals_can [(Rat.divInt 1 4, Rat.divInt 3 4)]
  have e3 : vals [acan (0, Rat.divInt 1 4), acan (Rat.divInt 3 4, 1)] = [(0, Rat.divInt 1 4), (Rat.divInt 3 4, 1)] := vals_can [(0, Rat.divInt 1 4), (Rat.divInt 3 4, 1)]
  have e5 : Rat.divInt 1 1 = 1 := by decide +kernel
  have e4 : vals [(rcan 0, rcan (Rat.divInt 1 4)), (rcan (Rat.divInt 3 4), rcan (Rat.divInt 1 1))] = [(0, Rat.divInt 1 4), (Rat.divInt 3 4, 1)] := by rw [e5]; exact vals_can [(0, Rat.divInt 1 4), (Rat.divInt 3 4, 1)]
  have w1 := WLA_cans [(Rat.divInt 1 4, Rat.divInt 3 4)]
  have w2 := WLA_cans [(0, Rat.divInt 1 4), (Rat.divInt 3 4, 1)]
  have o1 : okAs 1073741824 ([(Rat.divInt 1 4, Rat.divInt 3 4)].map acan) := okAs_can (by intro q hq; rw [List.mem_singleton] at hq; subst hq; exact ⟨hz' _ (by simp), hz' _ (by simp)⟩)
  have o2 : okAs 1073741824 ([(0, Rat.divInt 1 4), (Rat.divInt 3 4, 1)].map acan) := okAs_can (by
   intro q hq
   simp only [List.mem_cons, List.not_mem_nil, or_false] at hq
   rcases hq with rfl | rfl <;> exact ⟨hz' _ (by simp), hz' _ (by simp)⟩)
  rw [e1, e2, e3, e4, hl, e5, decide_eq_true rfl]
  refine ⟨by omega, by omega, by omega, by omega, by omega, by omega, by omega, by omega, by omega, by omega, by omega, by omega, hw, hm, ho2, by omega, by omega, by omega, hw, by omega, ho, Nat.le_trans (hz _ (by simp)) (by decide), by omega, by omega, by omega, by omega, by omega, by omega,
   w1, w1, o1, o1, fun _ => ⟨by omega, by omega, by omega, by omega, by omega, by omega, by omega, by omega, by omega, w2, w2, o2, o2, hK⟩, fun h => absurd rfl h⟩
end Go.Abs
end
section
set_option linter.unusedVariables false
namespace Go.Num
theorem floor_01 {q : Rat} (h0 : 0 ≤ q) (h1 : q < 1) : q.floor = 0 := by
 have a : (0 : Int) ≤ q.floor := Rat.le_floor_iff.2 h0
 have b : q.floor < 1 := Rat.floor_lt_iff.2 h1
 omega
theorem frac_01 {q : Rat} (h0 : 0 ≤ q) (h1 : q < 1) : frac q = q := by
 unfold frac; rw [floor_01 h0 h1]
 show q - 0 = q
 grind
theorem frac_ge (q : Rat) : 0 ≤ frac q := by
 unfold frac
 have := Rat.floor_le q
 grind
theorem frac_lt (q : Rat) : frac q < 1 := by
 unfold frac
 have := Rat.lt_floor (x := q)
 grind
theorem frac_frac (q : Rat) : frac (frac q) = frac q := frac_01 (frac_ge q) (frac_lt q)
theorem frac_int (n : Int) : frac (n : Rat) = 0 := by
 unfold frac; rw [Rat.floor_intCast]; grind
theorem frac_one : frac 1 = 0 := frac_int 1
instance (x : Rat) (a : Q2) : Decidable (mem x a) := by unfold mem; infer_instance
instance (x : Rat) (l : List Q2) : Decidable (memL x l) := by unfold memL; infer_instance
theorem any_mem (y : Rat) (l : List Arc) : l.any (inA y) = decide (memL y (vals l)) := by
 cases h : l.any (inA y) with
 | true =>
  obtain ⟨x, hx, hy⟩ := List.any_eq_true.1 h
  unfold inA at hy
  simp only [Bool.and_eq_true, decide_eq_true_eq] at hy
  exact (decide_eq_true ⟨av x, List.mem_map.2 ⟨x, hx, rfl⟩, hy.1, hy.2⟩).symm
 | false =>
  refine (decide_eq_false fun ⟨a, ha, h1, h2⟩ => ?_).symm
  obtain ⟨x, hx, rfl⟩ := List.mem_map.1 ha
  rw [List.any_eq_false] at h
  refine h x hx ?_
  unfold inA
  simp only [Bool.and_eq_true, decide_eq_true_eq]
  exact ⟨h1, h2⟩
theorem chk_good {l : List Arc} (h : chk [l] = 0) : l.length ≤ 64 ∧ ∀ x ∈ l, GoodA x :=
 ⟨(chk1_0 (chk_1 l ▸ h)).1, fun x hx => badA_f.1 ((chk1_0 (chk_1 l ▸ h)).2 x hx)⟩
theorem chk_val {l : List Arc} (h : chk [l] = 0) : Pos (vals l) ∧ In01 (vals l) := by
 obtain ⟨_, h2⟩ := chk_good h
 refine ⟨fun a ha => ?_, fun a ha => ?_⟩
 ·obtain ⟨x, hx, rfl⟩ := List.mem_map.1 ha
  exact (h2 x hx).lt
 ·obtain ⟨x, hx, rfl⟩ := List.mem_map.1 ha
  exact ⟨(h2 x hx).lo, (h2 x hx).hi⟩
def diff (l m : List Arc) (y : Rat) : Bool := l.any (inA (frac y)) != m.any (inA (frac y))
def mk1 (x : Arc) : List Rat := [rv x.1, frac (rv x.2)]
def mks (l : List Arc) : List Rat := l.flatMap mk1
theorem norms_tell {l m : List Arc} (hl : chk [l] = 0) (hm : chk [m] = 0) : (mks l ++ mks m).any (diff l m) = !decide (nrm (vals l) = nrm (vals m)) := by
 obtain ⟨pl, il⟩ := chk_val hl
 obtain ⟨pm, im⟩ := chk_val hm
 obtain ⟨_, gl⟩ := chk_good hl
 obtain ⟨_, gm⟩ := chk_good hm
 have hd : ∀ y, diff l m y = false ↔ (memL (frac y) (vals l) ↔ memL (frac y) (vals m)) := by
  intro y
  unfold diff
  rw [any_mem, any_mem]
  simp
 by_cases h : nrm (vals l) = nrm (vals m)
 ·rw [decide_eq_true h, Bool.not_true, List.any_eq_false]
  intro y _
  rw [(hd y).2 ((nrm_eq_iff pl pm).1 h (frac y))]
  simp
 ·rw [decide_eq_false h, Bool.not_false]
  cases hall : (mks l ++ mks m).any (diff l m) with
  | true => rfl
  | false =>
   exfalso
   apply h
   rw [nrm_eq_iff pl pm]
   rw [List.any_eq_false] at hall
   have key : ∀ (n : List Arc), (∀ x ∈ n, GoodA x) → (∀ a ∈ vals n, a.1 ∈ (mks n).map frac) ∧ (∀ a ∈ vals n, a.2 < 1 → a.2 ∈ (mks n).map frac) := by
    intro n hn
    refine ⟨fun a ha => ?_, fun a ha h1 => ?_⟩
    ·obtain ⟨x, hx, rfl⟩ := List.mem_map.1 ha
     have g := hn x hx
     refine List.mem_map.2 ⟨rv x.1, List.mem_flatMap.2 ⟨x, hx, by simp [mk1]⟩, frac_01 g.lo ?_⟩
     have := g.lt; have := g.hi; grind
    ·obtain ⟨x, hx, rfl⟩ := List.mem_map.1 ha
     have g := hn x hx
     have h0 : 0 ≤ rv x.2 := by have := g.lt; have := g.lo; grind
     refine List.mem_map.2 ⟨frac (rv x.2), List.mem_flatMap.2 ⟨x, hx, by simp [mk1]⟩, ?_⟩
     rw [frac_frac]
     exact frac_01 h0 h1
   obtain ⟨l1, l2⟩ := key l gl
   obtain ⟨m1, m2⟩ := key m gm
   refine fun x => marks_tell (M := (mks l ++ mks m).map frac) ?_ ?_ ?_ ?_ il im ?_ x
   ·intro a ha; rw [List.map_append]; exact List.mem_append.2 (.inl (l1 a ha))
   ·intro a ha h; rw [List.map_append]; exact List.mem_append.2 (.inl (l2 a ha h))
   ·intro a ha; rw [List.map_append]; exact List.mem_append.2 (.inr (m1 a ha))
   ·intro a ha h; rw [List.map_append]; exact List.mem_append.2 (.inr (m2 a ha h))
   ·intro k hk
    obtain ⟨y, hy, rfl⟩ := List.mem_map.1 hk
    have := hall y hy
    exact (hd y).1 (by simpa using this)
def endsIn (l p : List Q2) : Prop := ∀ q ∈ l, (∃ a ∈ p, q.1 = a.1) ∧ ∃ a ∈ p, q.2 = a.2
theorem swStep_ends {w : Sw} {a : Q2} {p : List Q2} (h : endsIn (swOut w) p) (ha : a ∈ p) : endsIn (swOut (swStep w a)) p := by
 match w, h with
 | none, h =>
  intro q hq
  simp [swStep, swOut] at hq
  subst hq
  exact ⟨⟨q, ha, rfl⟩, ⟨q, ha, rfl⟩⟩
 | some (o, z), h =>
  simp only [swStep]
  have hz := h z (by simp [swOut])
  split
  ·intro q hq
   simp only [swOut, List.mem_append, List.mem_singleton] at hq
   rcases hq with hq | rfl
   ·exact h q (by simp [swOut, hq])
   ·refine ⟨hz.1, ?_⟩
    simp only [mxQ]
    split
    ·exact hz.2
    ·exact ⟨a, ha, rfl⟩
  ·intro q hq
   simp only [swOut, List.mem_append, List.mem_singleton] at hq
   rcases hq with hq | rfl
   ·exact h q (by simpa [swOut] using hq)
   ·exact ⟨⟨q, ha, rfl⟩, ⟨q, ha, rfl⟩⟩
theorem fold_ends {p : List Q2} : ∀ (l : List Q2) (w : Sw), endsIn (swOut w) p → (∀ a ∈ l, a ∈ p) → endsIn (swOut (l.foldl swStep w)) p
 | [], w, h, _ => h
 | a :: l, w, h, hl => fold_ends l _ (swStep_ends h (hl a (by simp))) fun b hb => hl b (by simp [hb])
theorem nrm_ends (l : List Q2) : endsIn (nrm l) l :=
 fold_ends (p := l) _ none (fun q hq => by simp [swOut] at hq) fun a ha => (List.mergeSort_perm l _).mem_iff.1 ha
def rzQ (b : Nat) (l : List Q2) : Prop := ∀ q ∈ l, rz q.1 ≤ b ∧ rz q.2 ≤ b
theorem rzQ_vals {b : Nat} {l : List Arc} (h : okAs b l) : rzQ b (vals l) := fun q hq => by
 obtain ⟨x, hx, rfl⟩ := List.mem_map.1 hq
 have := h x hx
 exact ⟨Nat.le_trans (rz_rv this.1.1) (Nat.le_trans (Nat.le_max_left _ _) this.2), Nat.le_trans (rz_rv this.1.2) (Nat.le_trans (Nat.le_max_right _ _) this.2)⟩
theorem rzQ_nrm {b : Nat} {l : List Q2} (h : rzQ b l) : rzQ b (nrm l) := fun q hq => by
 obtain ⟨⟨a, ha, e1⟩, ⟨c, hc, e2⟩⟩ := nrm_ends l q hq
 rw [e1, e2]
 exact ⟨(h a ha).1, (h c hc).2⟩
theorem okAs_nrm {b : Nat} {l : List Arc} (h : okAs b l) : okAs b ((nrm (vals l)).map acan) := okAs_can (rzQ_nrm (rzQ_vals h))
theorem chk_nrm {l : List Arc} (h : chk [l] = 0) : chk [(nrm (vals l)).map acan] = 0 := by
 obtain ⟨p, i⟩ := chk_val h
 refine chk_can ?_ (nrm_ok p).1 (nrm_in p i)
 have := nrm_len (vals l)
 have := (chk_good h).1
 simp only [vals, List.length_map] at *
 omega
theorem validL_t {l : List Arc} (h : validL l = true) : chk [l] = 0 ∧ l.length ≤ 20 := by
 unfold validL at h
 simp only [Bool.and_eq_true, Bool.not_eq_true', decide_eq_true_eq] at h
 obtain ⟨h1, h2⟩ := h
 refine ⟨by rw [chk_1]; exact h2, ?_⟩
 refine Nat.le_of_not_lt fun h20 => ?_
 have h64 := (chk1_0 h2).1
 unfold largeL at h1
 rw [if_pos h20, decide_eq_true h64] at h1
 simp at h1
end Go.Num
end
section
set_option linter.unusedVariables false
set_option linter.unusedSimpArgs false
set_option maxRecDepth 100000
namespace Go.Num
def not1 (f t : Rat) : List Q2 := if f < t then [(f, t)] else []
def notGo : Rat → List Q2 → List Q2
 | f, [] => not1 f 1
 | f, a :: l => not1 f a.1 ++ notGo a.2 l
def notL (l : List Q2) : List Q2 := notGo 0 l
def gaps : Rat → List Q2 → List Q2 × Rat
 | f, [] => ([], f)
 | f, a :: l => let r := gaps a.2 l; (not1 f a.1 ++ r.1, r.2)
theorem notGo_gaps : ∀ (f : Rat) (l : List Q2), notGo f l = (gaps f l).1 ++ not1 (gaps f l).2 1
 | f, [] => by simp [notGo, gaps]
 | f, a :: l => by simp only [notGo, gaps]; rw [notGo_gaps a.2 l, List.append_assoc]
theorem gaps_snoc : ∀ (f : Rat) (l : List Q2) (a : Q2), gaps f (l ++ [a]) = ((gaps f l).1 ++ not1 (gaps f l).2 a.1, a.2)
 | f, [], a => by simp [gaps]
 | f, b :: l, a => by simp only [List.cons_append, gaps]; rw [gaps_snoc b.2 l a]; simp
def meet1 (x y : Q2) : List Q2 := not1 (mxQ x.1 y.1) (mnQ x.2 y.2)
def meetL (a b : List Q2) : List Q2 := a.flatMap fun x => b.flatMap fun y => meet1 x y
theorem not1_len (f t : Rat) : (not1 f t).length ≤ 1 := by unfold not1; split <;> simp
theorem gaps_len : ∀ (f : Rat) (l : List Q2), (gaps f l).1.length ≤ l.length
 | f, [] => by simp [gaps]
 | f, a :: l => by
  have h1 := gaps_len a.2 l
  have h2 := not1_len f a.1
  simp only [gaps, List.length_append, List.length_cons]; omega
theorem notL_len (l : List Q2) : (notL l).length ≤ l.length + 1 := by
 unfold notL; rw [notGo_gaps, List.length_append]
 have h1 := gaps_len 0 l
 have h2 := not1_len (gaps 0 l).2 1
 omega
theorem flat_len {α β : Type} (f : α → List β) (n : Nat) (h : ∀ x, (f x).length ≤ n) : ∀ l : List α, (l.flatMap f).length ≤ l.length * n
 | [] => by simp
 | x :: l => by
  have h1 := h x
  have h2 := flat_len f n h l
  simp only [List.flatMap_cons, List.length_append, List.length_cons, Nat.add_mul, Nat.one_mul]; omega
theorem meetL_len (a b : List Q2) : (meetL a b).length ≤ a.length * b.length := by
 refine flat_len _ _ (fun x => ?_) a
 have := flat_len (fun y => meet1 x y) 1 (fun y => not1_len _ _) b
 simpa using this
theorem rz_gaps {b : Nat} : ∀ (l : List Q2) (f : Rat), rz f ≤ b → rzQ b l → rzQ b (gaps f l).1 ∧ rz (gaps f l).2 ≤ b
 | [], f, h, _ => ⟨fun q hq => by simp [gaps] at hq, h⟩
 | a :: l, f, h, hl => by
  have ha := hl a (by simp)
  obtain ⟨h1, h2⟩ := rz_gaps l a.2 ha.2 fun q hq => hl q (by simp [hq])
  refine ⟨fun q hq => ?_, h2⟩
  simp only [gaps, List.mem_append] at hq
  rcases hq with hq | hq
  ·unfold not1 at hq
   split at hq
   ·rw [List.mem_singleton] at hq; subst hq; exact ⟨h, ha.1⟩
   ·simp at hq
  ·exact h1 q hq
theorem rz_mx {p q : Rat} {b : Nat} (hp : rz p ≤ b) (hq : rz q ≤ b) : rz (mxQ p q) ≤ b := by unfold mxQ; split <;> assumption
theorem rz_mn {p q : Rat} {b : Nat} (hp : rz p ≤ b) (hq : rz q ≤ b) : rz (mnQ p q) ≤ b := by unfold mnQ; split <;> assumption
end Go.Num
namespace Go.Abs
open Go.Num
variable {P : Program} {Γ : Nat → Spec}
def cnot_G (l : List AV) (K : AV → Prop) : Prop :=
 match l with
 | [a] => onAs (fun l => l.length ≤ 1000 ∧ okAs 1000000000 l ∧ K (.one (.slice (((notL (vals l)).map acan).map aC)))) a
 | _ => False
theorem cnot_Ge (a : AV) (K : AV → Prop) : cnot_G [a] K = (onAs (fun l => l.length ≤ 1000 ∧ okAs 1000000000 l ∧ K (.one (.slice (((notL (vals l)).map acan).map aC)))) a) := propext Iff.rfl
@[congr] theorem cnot_Gc {K : AV → Prop} {l l' : List AV} (h : l = l') : cnot_G l K = cnot_G l' K := by subst h; rfl
attribute [go_sem] cnot_Ge
attribute [go_sem ↓] cnot_Ge
theorem cnot_good : Good cnot_G := good_of fun as => by
 unfold cnot_G
 split
 ·repeat (first | exact .ret _ | exact .of (fun K hk => hk.elim) | (refine .and fun _ => ?_) | (refine g_onWs fun _ => ?_) | (refine g_onR fun _ => ?_) | (refine g_onAs fun _ => ?_) | (refine g_onA fun _ => ?_) | (refine g_asInt (fun _ _ => ?_) _) | (refine g_asBool (fun _ => ?_) _) | (refine g_onE ?_ ?_) | (intro _) | assumption)
 ·exact .of fun K hk => hk.elim
def cmeet_G (l : List AV) (K : AV → Prop) : Prop :=
 match l with
 | [a, b] => onAs (fun l => onAs (fun m => l.length ≤ 1000 ∧ m.length ≤ 1000 ∧ okAs 1000000000 l ∧ okAs 1000000000 m ∧ K (.one (.slice (((meetL (vals l) (vals m)).map acan).map aC)))) b) a
 | _ => False
theorem cmeet_Ge (a b : AV) (K : AV → Prop) : cmeet_G [a, b] K = (onAs (fun l => onAs (fun m => l.length ≤ 1000 ∧ m.length ≤ 1000 ∧ okAs 1000000000 l ∧ okAs 1000000000 m ∧ K (.one (.slice (((meetL (vals l) (vals m)).map acan).map aC)))) b) a) := propext Iff.rfl
@[congr] theorem cmeet_Gc {K : AV → Prop} {l l' : List AV} (h : l = l') : cmeet_G l K = cmeet_G l' K := by subst h; rfl
attribute [go_sem] cmeet_Ge
attribute [go_sem ↓] cmeet_Ge
theorem cmeet_good : Good cmeet_G := good_of fun as => by
 unfold cmeet_G
 split
 ·repeat (first | exact .ret _ | exact .of (fun K hk => hk.elim) | (refine .and fun _ => ?_) | (refine g_onWs fun _ => ?_) | (refine g_onR fun _ => ?_) | (refine g_onAs fun _ => ?_) | (refine g_onA fun _ => ?_) | (refine g_asInt (fun _ _ => ?_) _) | (refine g_asBool (fun _ => ?_) _) | (refine g_onE ?_ ?_) | (intro _) | assumption)
 ·exact .of fun K hk => hk.elim
def ac_chart_not (f0 f1 f2 : Nat) : AC := (.seq (.ops false [.m 2 (.c (.one .emp))])
 (.fg [0] (.seq (.ops false [.m 3 (.c (.one .emp))])
 (.fg [0, 3] (.seq (.ops false [.u 7 (.build [.z [(.lit (.bool false)), .emp, .emp]]), .u 4 (.alloc [(.lit (.bool false)), .emp, .emp]), .n (.st none 3 (.t 4) (.t 7))])
 (.fg [0, 3, 4] (.seq (.seq (.ops false [.m 8 (.t 0), .u 9 (.len (.t 8)), .m 10 (.i 0)])
 (.fg [3, 4, 8, 9, 10] (.block 0 (.loop (.seq (.ops false [.u 11 (.bin .lss (.t 10) (.t 9))])
 (.fg [3, 4, 8, 9, 10, 11] (.seq (.cond (.t 11) .skip (.exit 0))
 (.fg [3, 4, 8, 9, 10] (.seq (.block 1 (.seq (.ops false [.u 12 (.idx 6 (.t 8) (.t 10)), .u 13 (.ld none 6 true (.t 12)), .u 6 (.alloc [(.lit (.bool false)), .emp, .emp, (.lit (.bool false)), .emp, .emp]), .n (.st none 6 (.t 6) (.t 13))])
 (.fg [3, 4, 6, 8, 9, 10] (.seq (.seq (.ops false [.u 14 (.ld none 3 true (.t 4)), .u 15 (.fa 0 (.t 6)), .u 16 (.ld none 3 true (.t 15)), .u 17 (.call f0 [(.t 14), (.t 16)]), .u 18 (.bin .lss (.t 17) (.i 0))])
 (.fg [3, 4, 6, 8, 9, 10, 18] (.cond (.t 18) (.ops false [.m 19 (.t 3), .u 20 (.ld none 3 true (.t 4)), .u 21 (.fa 0 (.t 6)), .u 22 (.ld none 3 true (.t 21)), .u 23 (.call f1 [(.t 20), (.t 22)]), .u 24 (.row 6 [[.x 6 (.t 23)]]), .u 25 (.app 6 (.t 19) (.t 24)), .m 3 (.t 25)]) .skip)))
 (.fg [3, 4, 6, 8, 9, 10] (.ops false [.u 26 (.fa 3 (.t 6)), .u 27 (.ld none 3 true (.t 26)), .n (.st none 3 (.t 4) (.t 27))]))))))
 (.fg [3, 4, 8, 9, 10] (.ops false [.u 28 (.bin .add (.t 10) (.i 1)), .m 10 (.t 28)])))))))))))
 (.fg [3, 4] (.seq (.seq (.ops true [.u 29 (.ld none 3 true (.t 4)), .u 30 (.call f2 []), .u 31 (.call f0 [(.t 29), (.t 30)]), .u 32 (.bin .lss (.t 31) (.i 0))])
 (.fg [3, 4, 32] (.cond (.t 32) (.ops true [.m 33 (.t 3), .u 34 (.ld none 3 true (.t 4)), .u 35 (.call f2 []), .u 36 (.call f1 [(.t 34), (.t 35)]), .u 37 (.row 6 [[.x 6 (.t 36)]]), .u 38 (.app 6 (.t 33) (.t 37)), .m 3 (.t 38)]) .skip)))
 (.fg [3] (.seq (.ops false [.m 39 (.t 3), .m 2 (.t 39)])
 .ret)))))))))))
def ac_chart_meet (f0 f1 f2 : Nat) : AC := (.seq (.ops false [.m 4 (.c (.one .emp))])
 (.fg [0, 1] (.seq (.ops false [.m 5 (.c (.one .emp))])
 (.fg [0, 1, 5] (.seq (.seq (.ops false [.m 12 (.t 0), .u 13 (.len (.t 12)), .m 14 (.i 0)])
 (.fg [1, 5, 12, 13, 14] (.block 0 (.loop (.seq (.ops false [.u 15 (.bin .lss (.t 14) (.t 13))])
 (.fg [1, 5, 12, 13, 14, 15] (.seq (.cond (.t 15) .skip (.exit 0))
 (.fg [1, 5, 12, 13, 14] (.seq (.block 1 (.seq (.ops false [.u 16 (.idx 6 (.t 12) (.t 14)), .u 17 (.ld none 6 true (.t 16)), .u 7 (.alloc [(.lit (.bool false)), .emp, .emp, (.lit (.bool false)), .emp, .emp]), .n (.st none 6 (.t 7) (.t 17))])
 (.fg [1, 5, 7, 12, 13, 14] (.seq (.ops false [.m 18 (.t 1), .u 19 (.len (.t 18)), .m 20 (.i 0)])
 (.fg [1, 5, 7, 12, 13, 14, 18, 19, 20] (.block 2 (.loop (.seq (.ops false [.u 21 (.bin .lss (.t 20) (.t 19))])
 (.fg [1, 5, 7, 12, 13, 14, 18, 19, 20, 21] (.seq (.cond (.t 21) .skip (.exit 2))
 (.fg [1, 5, 7, 12, 13, 14, 18, 19, 20] (.seq (.block 3 (.seq (.ops false [.u 22 (.idx 6 (.t 18) (.t 20)), .u 23 (.ld none 6 true (.t 22)), .u 9 (.alloc [(.lit (.bool false)), .emp, .emp, (.lit (.bool false)), .emp, .emp]), .n (.st none 6 (.t 9) (.t 23))])
 (.fg [1, 5, 7, 9, 12, 13, 14, 18, 19, 20] (.seq (.ops true [.u 24 (.fa 0 (.t 7)), .u 25 (.ld none 3 true (.t 24)), .u 26 (.fa 0 (.t 9)), .u 27 (.ld none 3 true (.t 26)), .u 28 (.call f0 [(.t 25), (.t 27)]), .u 29 (.fa 3 (.t 7)), .u 30 (.ld none 3 true (.t 29)), .u 31 (.fa 3 (.t 9)), .u 32 (.ld none 3 true (.t 31)), .u 33 (.call f1 [(.t 30), (.t 32)]), .u 10 (.alloc [(.lit (.bool false)), .emp, .emp]), .u 11 (.alloc [(.lit (.bool false)), .emp, .emp]), .n (.st none 3 (.t 10) (.t 28)), .n (.st none 3 (.t 11) (.t 33))])
 (.fg [1, 5, 7, 10, 11, 12, 13, 14, 18, 19, 20] (.seq (.ops false [.u 34 (.ld none 3 true (.t 10)), .u 35 (.ld none 3 true (.t 11)), .u 36 (.call f2 [(.t 34), (.t 35)]), .u 37 (.bin .lss (.t 36) (.i 0))])
 (.fg [1, 5, 7, 10, 11, 12, 13, 14, 18, 19, 20, 37] (.cond (.t 37) (.ops false [.m 38 (.t 5), .u 39 (.ld none 3 true (.t 10)), .u 40 (.ld none 3 true (.t 11)), .u 41 (.build [.x 3 (.t 39), .x 3 (.t 40)]), .u 42 (.row 6 [[.x 6 (.t 41)]]), .u 43 (.app 6 (.t 38) (.t 42)), .m 5 (.t 43)]) .skip))))))))
 (.fg [1, 5, 7, 12, 13, 14, 18, 19, 20] (.ops false [.u 44 (.bin .add (.t 20) (.i 1)), .m 20 (.t 44)]))))))))))))))
 (.fg [1, 5, 12, 13, 14] (.ops false [.u 45 (.bin .add (.t 14) (.i 1)), .m 14 (.t 45)])))))))))))
 (.fg [5] (.seq (.ops false [.m 46 (.t 5), .m 4 (.t 46)])
 .ret)))))))
theorem okB_0 {h h' : Nat → HB} {z : Nat} {b : Bool} {y : R} (e : y = rcan 0) : okB h h' (some ⟨[[.lit (.bool false), .emp, .emp]], z, b⟩) (some ⟨[[cb y, cn y, cd y]], z, b⟩) := by
 subst e
 rw [rcan_zero]
 exact ⟨⟨rfl, rfl⟩, .inr ⟨⟨rfl, rfl, rfl, trivial⟩, trivial⟩⟩
theorem cnot_sound (hΓ : Holds P Γ) {f fc fo f1 : Nat} (hcm : Γ fc = .dat true rcmp_G) (ho : Γ fo = .dat false cown_G) (h1 : Γ f1 = .dat false cone_G) (hc : check P f = some (40, (ac_chart_not fc fo f1).strip, [.tmp 2])) : Sound P f (.dat false cnot_G) := by
 refine sound_dat hc cnot_good hΓ (fun args K hcl hfi hG => ?_)
 match args, hG with
 | [a], hG =>
  obtain ⟨l, rfl, hwl, hlen, hok, hK⟩ := hG
  refine ⟨by simp, ?_⟩
  simp only [go_sem, ↓reduceIte, Nat.reduceEqDiff, Nat.reduceAdd, Nat.reduceLT, Nat.reduceLeDiff, Int.reduceToNat, Nat.reducePow, Nat.reduceMul, reduceCtorEq, ac_chart_not, hcm, ho, h1]
  intro _
  refine wpA_loop (fun p : Nat × R × List Q2 => match p.2.2 with
    | [] => ⟨mkV [(3, .one .emp), (4, .one (.ptr 4 1 0 0)), (8, asA l), (9, .one (.lit (.int .i64 l.length))), (10, .one (.lit (.int .i64 p.1)))], mkH [(4, ⟨1, some ⟨[[cb p.2.1, cn p.2.1, cd p.2.1]], 3, true⟩⟩)]⟩
    | q :: L => ⟨mkV [(3, .one (.own 25 1 6 0 (q :: L).length)), (4, .one (.ptr 4 1 0 0)), (8, asA l), (9, .one (.lit (.int .i64 l.length))), (10, .one (.lit (.int .i64 p.1)))], mkH [(4, ⟨1, some ⟨[[cb p.2.1, cn p.2.1, cd p.2.1]], 3, true⟩⟩), (25, ⟨1, some ⟨((q :: L).map acan).map aC, 6, true⟩⟩)]⟩)
   (fun p => p.1 ≤ l.length ∧ (rv p.2.1 = (gaps 0 (vals (l.take p.1))).2 ∧ p.2.2 = (gaps 0 (vals (l.take p.1))).1) ∧ WLR p.2.1 ∧ rl p.2.1 ≤ 1000000000) (fun p => l.length - p.1) (0, rcan 0, []) ?_ ?_ ?_
  ·exact weak_lit (by simp [okS, okV, okC, okL, okH, okB, okE, mkV_cons, mkV_nil, mkH_cons, mkH_nil, wsA, ws, asA, as]) ⟨okB_0 rfl, trivial⟩
  ·exact ⟨Nat.zero_le _, ⟨by simp only [rv_rcan]; rfl, rfl⟩, WLR_rcan _, by rw [rl_can, rz_zero]; decide⟩
  ·rintro ⟨i, y, L⟩ ⟨hi, ⟨hy, hL⟩, hyw, hyl⟩
   simp only at hi hy hL hyw hyl
   have hLl : L.length ≤ i := by
    have := gaps_len 0 (vals (l.take i))
    rw [← hL] at this
    simp only [vals, List.length_map, List.length_take] at this
    omega
   have hyl' : rl y ≤ 4294967296 := by omega
   by_cases hlt : i < l.length
   ·obtain ⟨x, hx⟩ : ∃ x, l.getD i a0 = x := ⟨_, rfl⟩
    have hx0 : l[i]? = some x := by rw [← hx, List.getD_eq_getElem?_getD, List.getElem?_eq_getElem hlt]; rfl
    have hox := hok x (List.mem_of_getElem? hx0)
    have hx1 : rl x.1 ≤ 1000000000 := Nat.le_trans (Nat.le_max_left _ _) hox.2
    have hx2 : rl x.2 ≤ 1000000000 := Nat.le_trans (Nat.le_max_right _ _) hox.2
    have hx1' : rl x.1 ≤ 4294967296 := by omega
    have hx3 := hox.1.1
    have hx4 := hox.1.2
    have e : vals (l.take (i + 1)) = vals (l.take i) ++ [av x] := by rw [List.take_add_one, hx0]; simp [vals]
    have hg : (gaps 0 (vals (l.take (i + 1)))).1 = L ++ not1 (rv y) (rv x.1) ∧ (gaps 0 (vals (l.take (i + 1)))).2 = rv x.2 := by
     rw [e, gaps_snoc, ← hy, ← hL]; exact ⟨rfl, rfl⟩
    match L, hL, hLl, hg with
    | [], hL, hLl, hg =>
     simp only [go_sem, ↓reduceIte, Nat.reduceEqDiff, Nat.reduceAdd, Nat.reduceLT, Nat.reduceLeDiff, Int.reduceToNat, Nat.reducePow, Nat.reduceMul, reduceCtorEq, hcm, ho, h1, hlt, hx, aC_eq, hx1', hx3, hx4, hyw, hyl', ordQ_lt]
     refine ⟨fun hc1 => ⟨by simp, by omega, (i + 1, x.2, [(rv y, rv x.1)]), weak_lit (by simp [okS, okV, okC, okL, okH, okB, okE, mkV_cons, mkV_nil, mkH_cons, mkH_nil, wsA, ws, asA, as]) ?_, ⟨by (try simp only); omega, ⟨hg.2.symm, ?_⟩, hx4, hx2⟩, by (try simp only); omega⟩, fun hc1 => ⟨by omega, (i + 1, x.2, []), weak_lit (by simp [okS, okV, okC, okL, okH, okB, okE, mkV_cons, mkV_nil, mkH_cons, mkH_nil, wsA, ws, asA, as]) ⟨okB_r, trivial⟩, ⟨by (try simp only); omega, ⟨hg.2.symm, ?_⟩, hx4, hx2⟩, by (try simp only); omega⟩⟩
     ·refine ⟨okB_r, okB_a (l' := ([(rv y, rv x.1)] : List Q2).map acan) ?_, trivial⟩
      simp [aC, acan]
     ·rw [hg.1]; unfold not1; rw [if_pos hc1]; rfl
     ·rw [hg.1]; unfold not1; rw [if_neg hc1]; rfl
    | q :: L, hL, hLl, hg =>
     simp only [go_sem, ↓reduceIte, Nat.reduceEqDiff, Nat.reduceAdd, Nat.reduceLT, Nat.reduceLeDiff, Int.reduceToNat, Nat.reducePow, Nat.reduceMul, reduceCtorEq, hcm, ho, h1, hlt, hx, aC_eq, hx1', hx3, hx4, hyw, hyl', ordQ_lt]
     simp only [List.length_cons] at hLl
     refine ⟨fun hc1 => ⟨by simp, by omega, by omega, (i + 1, x.2, q :: (L ++ [(rv y, rv x.1)])), weak_lit (by simp [okS, okV, okC, okL, okH, okB, okE, mkV_cons, mkV_nil, mkH_cons, mkH_nil, wsA, ws, asA, as]) ?_, ⟨by (try simp only); omega, ⟨hg.2.symm, ?_⟩, hx4, hx2⟩, by (try simp only); omega⟩, fun hc1 => ⟨by omega, (i + 1, x.2, q :: L), weak_lit (by simp [okS, okV, okC, okL, okH, okB, okE, mkV_cons, mkV_nil, mkH_cons, mkH_nil, wsA, ws, asA, as]) ?_, ⟨by (try simp only); omega, ⟨hg.2.symm, ?_⟩, hx4, hx2⟩, by (try simp only); omega⟩⟩
     ·refine ⟨okB_r, okB_a (l' := (q :: (L ++ [(rv y, rv x.1)]) : List Q2).map acan) ?_, trivial⟩
      simp [aC, acan]
     ·rw [hg.1]; unfold not1; rw [if_pos hc1]; rfl
     ·exact ⟨okB_r, okB_a (l' := (q :: L).map acan) rfl, trivial⟩
     ·rw [hg.1]; unfold not1; rw [if_neg hc1]; simp
   ·have hfin : notL (vals l) = L ++ not1 (rv y) 1 := by
     unfold notL
     rw [notGo_gaps]
     rw [List.take_of_length_le (by omega)] at hy hL
     rw [← hy, ← hL]
    rw [hfin] at hK
    have hz1 : rz 1 ≤ 4294967296 := by have := rz_one; omega
    match L, hL, hLl, hK with
    | [], hL, hLl, hK =>
     simp only [go_sem, ↓reduceIte, Nat.reduceEqDiff, Nat.reduceAdd, Nat.reduceLT, Nat.reduceLeDiff, Int.reduceToNat, Nat.reducePow, Nat.reduceMul, reduceCtorEq, hcm, ho, h1, hlt, hyw, hyl', ordQ_lt, hz1, List.length_append]
     refine ⟨fun hc1 => ?_, fun hc1 => ?_⟩
     ·unfold not1 at hK; rw [if_pos hc1] at hK
      exact ⟨by simp, hK⟩
     ·unfold not1 at hK; rw [if_neg hc1] at hK
      exact hK
    | q :: L, hL, hLl, hK =>
     simp only [go_sem, ↓reduceIte, Nat.reduceEqDiff, Nat.reduceAdd, Nat.reduceLT, Nat.reduceLeDiff, Int.reduceToNat, Nat.reducePow, Nat.reduceMul, reduceCtorEq, hcm, ho, h1, hlt, hyw, hyl', ordQ_lt, hz1, List.length_append]
     simp only [List.length_cons] at hLl
     refine ⟨fun hc1 => ?_, fun hc1 => ?_⟩
     ·unfold not1 at hK; rw [if_pos hc1] at hK
      have e2 : aC (acan q) :: (List.map aC (List.map acan L) ++ [[cb (rcan (rv y)), cn (rcan (rv y)), cd (rcan (rv y)), cb (rcan 1), cn (rcan 1), cd (rcan 1)]]) = ((q :: L ++ [(rv y, 1)]).map acan).map aC := by simp [aC, acan]
      rw [e2]
      simp only [go_sem, ↓reduceIte, Nat.reduceEqDiff, Nat.reduceAdd, Nat.reduceLT, Nat.reduceLeDiff, Int.reduceToNat, Nat.reducePow, Nat.reduceMul, reduceCtorEq]
      exact ⟨by simp, by omega, hK⟩
     ·unfold not1 at hK; rw [if_neg hc1, List.append_nil] at hK
      have e2 : aC (acan q) :: List.map aC (List.map acan L) = ((q :: L).map acan).map aC := rfl
      rw [e2]
      simp only [go_sem, ↓reduceIte, Nat.reduceEqDiff, Nat.reduceAdd, Nat.reduceLT, Nat.reduceLeDiff, Int.reduceToNat, Nat.reducePow, Nat.reduceMul, reduceCtorEq]
      exact hK
theorem okB_a1 {h h' : Nat → HB} {z : Nat} {b : Bool} {x : Arc} : okB h h' (some ⟨[[cb x.1, cn x.1, cd x.1, cb x.2, cn x.2, cd x.2]], z, b⟩) (some ⟨[aC x], z, b⟩) := okB_a (l' := [x]) rfl
theorem cmeet_sound (hΓ : Holds P Γ) {f fx fn fc : Nat} (hx' : Γ fx = .dat false rmax_G) (hn : Γ fn = .dat false rmin_G) (hcm : Γ fc = .dat true rcmp_G) (hc : check P f = some (47, (ac_chart_meet fx fn fc).strip, [.tmp 4])) : Sound P f (.dat false cmeet_G) := by
 refine sound_dat hc cmeet_good hΓ (fun args K hcl hfi hG => ?_)
 match args, hG with
 | [a, b], hG =>
  obtain ⟨l, rfl, hwl, m, rfl, hwm, hlen, hlenm, hok, hokm, hK⟩ := hG
  refine ⟨by simp, ?_⟩
  simp only [go_sem, ↓reduceIte, Nat.reduceEqDiff, Nat.reduceAdd, Nat.reduceLT, Nat.reduceLeDiff, Int.reduceToNat, Nat.reducePow, Nat.reduceMul, reduceCtorEq, ac_chart_meet, hx', hn, hcm]
  intro _
  refine wpA_loop (fun p : Nat × List Q2 => match p.2 with
    | [] => ⟨mkV [(1, asA m), (5, .one .emp), (12, asA l), (13, .one (.lit (.int .i64 l.length))), (14, .one (.lit (.int .i64 p.1)))], mkH []⟩
    | q :: L => ⟨mkV [(1, asA m), (5, .one (.own 43 1 6 0 (q :: L).length)), (12, asA l), (13, .one (.lit (.int .i64 l.length))), (14, .one (.lit (.int .i64 p.1)))], mkH [(43, ⟨1, some ⟨((q :: L).map acan).map aC, 6, true⟩⟩)]⟩)
   (fun p => p.1 ≤ l.length ∧ p.2 = meetL (vals (l.take p.1)) (vals m)) (fun p => l.length - p.1) (0, []) ?_ ?_ ?_
  ·exact weak_lit (by simp [okS, okV, okC, okL, okH, okB, okE, mkV_cons, mkV_nil, mkH_cons, mkH_nil, wsA, ws, asA, as]) trivial
  ·exact ⟨Nat.zero_le _, rfl⟩
  ·rintro ⟨i, L⟩ ⟨hi, hL⟩
   simp only at hi hL
   by_cases hlt : i < l.length
   ·obtain ⟨x, hx⟩ : ∃ x, l.getD i a0 = x := ⟨_, rfl⟩
    have hx0 : l[i]? = some x := by rw [← hx, List.getD_eq_getElem?_getD, List.getElem?_eq_getElem hlt]; rfl
    have hox := hok x (List.mem_of_getElem? hx0)
    have hx1 : rl x.1 ≤ 1000000000 := Nat.le_trans (Nat.le_max_left _ _) hox.2
    have hx2 : rl x.2 ≤ 1000000000 := Nat.le_trans (Nat.le_max_right _ _) hox.2
    have hx1' : rl x.1 ≤ 4294967296 := by omega
    have hx2' : rl x.2 ≤ 4294967296 := by omega
    have hx3 := hox.1.1
    have hx4 := hox.1.2
    have rx1 := Nat.le_trans (rz_rv hx3) hx1
    have rx2 := Nat.le_trans (rz_rv hx4) hx2
    have hstepO : vals (l.take (i + 1)) = vals (l.take i) ++ [av x] := by rw [List.take_add_one, hx0]; simp [vals]
    have hLO : meetL (vals (l.take (i + 1))) (vals m) = L ++ (vals m).flatMap (meet1 (av x)) := by
     rw [hstepO, hL]; simp [meetL]
    have hLlen : L.length ≤ i * 1000 := by
     rw [hL]
     refine Nat.le_trans (meetL_len _ _) ?_
     simp only [vals, List.length_map, List.length_take]
     exact Nat.mul_le_mul (by omega) hlenm
    match L, hL, hLO, hLlen with
    | [], hL, hLO, hLlen =>
     simp only [go_sem, ↓reduceIte, Nat.reduceEqDiff, Nat.reduceAdd, Nat.reduceLT, Nat.reduceLeDiff, Int.reduceToNat, Nat.reducePow, Nat.reduceMul, reduceCtorEq, hx', hn, hcm, hlt, hx, aC_eq]
     intro _
     refine wpA_loop (fun p : Nat × List Q2 => match p.2 with
       | [] => ⟨mkV [(1, asA m), (5, .one .emp), (7, .one (.ptr 7 1 0 0)), (12, asA l), (13, .one (.lit (.int .i64 l.length))), (14, .one (.lit (.int .i64 i))), (18, asA m), (19, .one (.lit (.int .i64 m.length))), (20, .one (.lit (.int .i64 p.1)))], mkH [(7, ⟨1, some ⟨[aC x], 6, true⟩⟩)]⟩
       | q :: L => ⟨mkV [(1, asA m), (5, .one (.own 43 1 6 0 (q :: L).length)), (7, .one (.ptr 7 1 0 0)), (12, asA l), (13, .one (.lit (.int .i64 l.length))), (14, .one (.lit (.int .i64 i))), (18, asA m), (19, .one (.lit (.int .i64 m.length))), (20, .one (.lit (.int .i64 p.1)))], mkH [(7, ⟨1, some ⟨[aC x], 6, true⟩⟩), (43, ⟨1, some ⟨((q :: L).map acan).map aC, 6, true⟩⟩)]⟩)
      (fun p => p.1 ≤ m.length ∧ p.2 = meetL (vals (l.take i)) (vals m) ++ (vals (m.take p.1)).flatMap (meet1 (av x)) ∧ p.2.length ≤ i * 1000 + p.1) (fun p => m.length - p.1) (0, meetL (vals (l.take i)) (vals m)) ?_ ?_ ?_
     ·rw [← hL]
      refine weak_lit (by simp [okS, okV, okC, okL, okH, okB, okE, mkV_cons, mkV_nil, mkH_cons, mkH_nil, wsA, ws, asA, as]) ?_
      first | exact ⟨okB_a1, trivial⟩ | exact ⟨okB_a1, okB_a (l' := (q0 :: L0).map acan) rfl, trivial⟩
     ·exact ⟨Nat.zero_le _, by simp [vals], by rw [← hL]; exact hLlen⟩
     ·rintro ⟨j, M⟩ ⟨hj, hM, hMl⟩
      simp only at hj hM hMl
      by_cases hltj : j < m.length
      ·obtain ⟨y, hy⟩ : ∃ y, m.getD j a0 = y := ⟨_, rfl⟩
       have hy0 : m[j]? = some y := by rw [← hy, List.getD_eq_getElem?_getD, List.getElem?_eq_getElem hltj]; rfl
       have hoy := hokm y (List.mem_of_getElem? hy0)
       have hy1 : rl y.1 ≤ 1000000000 := Nat.le_trans (Nat.le_max_left _ _) hoy.2
       have hy2 : rl y.2 ≤ 1000000000 := Nat.le_trans (Nat.le_max_right _ _) hoy.2
       have hy1' : rl y.1 ≤ 4294967296 := by omega
       have hy2' : rl y.2 ≤ 4294967296 := by omega
       have hy3 := hoy.1.1
       have hy4 := hoy.1.2
       have rf : rz (if rv y.1 ≤ rv x.1 then rv x.1 else rv y.1) ≤ 4294967296 := Nat.le_trans (rz_mx rx1 (Nat.le_trans (rz_rv hy3) hy1)) (by decide)
       have rt : rz (if rv x.2 ≤ rv y.2 then rv x.2 else rv y.2) ≤ 4294967296 := Nat.le_trans (rz_mn rx2 (Nat.le_trans (rz_rv hy4) hy2)) (by decide)
       generalize hf : (if rv y.1 ≤ rv x.1 then rv x.1 else rv y.1) = fr at *
       generalize ht : (if rv x.2 ≤ rv y.2 then rv x.2 else rv y.2) = tt at *
       have hm1 : meet1 (av x) (av y) = not1 fr tt := by rw [← hf, ← ht]; rfl
       have hstep : (vals (m.take (j + 1))).flatMap (meet1 (av x)) = (vals (m.take j)).flatMap (meet1 (av x)) ++ not1 fr tt := by
        rw [List.take_add_one, hy0, ← hm1]; simp [vals]
       match M, hM, hMl with
       | [], hM, hMl =>
        simp only [go_sem, ↓reduceIte, Nat.reduceEqDiff, Nat.reduceAdd, Nat.reduceLT, Nat.reduceLeDiff, Int.reduceToNat, Nat.reducePow, Nat.reduceMul, reduceCtorEq, hx', hn, hcm, hltj, hy, aC_eq, hx1', hx2', hx3, hx4, hy1', hy2', hy3, hy4, hf, ht, rf, rt, ordQ_lt]
        refine ⟨fun hc1 => ⟨by simp, by omega, (j + 1, [(fr, tt)]), weak_lit (by simp [okS, okV, okC, okL, okH, okB, okE, mkV_cons, mkV_nil, mkH_cons, mkH_nil, wsA, ws, asA, as]) ?_, ⟨by (try simp only); omega, ?_, by (try simp only [List.length_cons, List.length_nil]); omega⟩, by (try simp only); omega⟩, fun hc1 => ⟨by omega, (j + 1, []), weak_lit (by simp [okS, okV, okC, okL, okH, okB, okE, mkV_cons, mkV_nil, mkH_cons, mkH_nil, wsA, ws, asA, as]) ⟨okB_a1, trivial⟩, ⟨by (try simp only); omega, ?_, by (try simp only [List.length_nil]); omega⟩, by (try simp only); omega⟩⟩
        ·refine ⟨okB_a1, okB_a (l' := ([(fr, tt)] : List Q2).map acan) ?_, trivial⟩
         simp [aC, acan]
        ·rw [hstep, ← List.append_assoc, ← hM]; unfold not1; rw [if_pos hc1]; rfl
        ·rw [hstep, ← List.append_assoc, ← hM]; unfold not1; rw [if_neg hc1]; rfl
       | q :: M, hM, hMl =>
        have hMl2 : M.length + 1 ≤ i * 1000 + j := by simpa using hMl
        simp only [go_sem, ↓reduceIte, Nat.reduceEqDiff, Nat.reduceAdd, Nat.reduceLT, Nat.reduceLeDiff, Int.reduceToNat, Nat.reducePow, Nat.reduceMul, reduceCtorEq, hx', hn, hcm, hltj, hy, aC_eq, hx1', hx2', hx3, hx4, hy1', hy2', hy3, hy4, hf, ht, rf, rt, ordQ_lt]
        refine ⟨fun hc1 => ⟨by simp, by omega, by omega, (j + 1, q :: (M ++ [(fr, tt)])), weak_lit (by simp [okS, okV, okC, okL, okH, okB, okE, mkV_cons, mkV_nil, mkH_cons, mkH_nil, wsA, ws, asA, as]) ?_, ⟨by (try simp only); omega, ?_, by (try simp only [List.length_cons, List.length_append, List.length_nil]); omega⟩, by (try simp only); omega⟩, fun hc1 => ⟨by omega, (j + 1, q :: M), weak_lit (by simp [okS, okV, okC, okL, okH, okB, okE, mkV_cons, mkV_nil, mkH_cons, mkH_nil, wsA, ws, asA, as]) ?_, ⟨by (try simp only); omega, ?_, by (try simp only [List.length_cons]); omega⟩, by (try simp only); omega⟩⟩
        ·refine ⟨okB_a1, okB_a (l' := (q :: (M ++ [(fr, tt)]) : List Q2).map acan) ?_, trivial⟩
         simp [aC, acan]
        ·rw [hstep, ← List.append_assoc, ← hM]; unfold not1; rw [if_pos hc1]; rfl
        ·exact ⟨okB_a1, okB_a (l' := (q :: M).map acan) rfl, trivial⟩
        ·rw [hstep, ← List.append_assoc, ← hM]; unfold not1; rw [if_neg hc1]; simp
      ·have hMM : M = meetL (vals (l.take (i + 1))) (vals m) := by
        rw [hM, hLO, ← hL, List.take_of_length_le (by omega)]
       match M, hM, hMM with
       | [], hM, hMM =>
        simp only [go_sem, ↓reduceIte, Nat.reduceEqDiff, Nat.reduceAdd, Nat.reduceLT, Nat.reduceLeDiff, Int.reduceToNat, Nat.reducePow, Nat.reduceMul, reduceCtorEq, hx', hn, hcm, hltj]
        exact ⟨by omega, (i + 1, []), weak_lit (by simp [okS, okV, okC, okL, okH, okB, okE, mkV_cons, mkV_nil, mkH_cons, mkH_nil, wsA, ws, asA, as]) trivial, ⟨by (try simp only); omega, hMM⟩, by (try simp only); omega⟩
       | q :: M, hM, hMM =>
        simp only [go_sem, ↓reduceIte, Nat.reduceEqDiff, Nat.reduceAdd, Nat.reduceLT, Nat.reduceLeDiff, Int.reduceToNat, Nat.reducePow, Nat.reduceMul, reduceCtorEq, hx', hn, hcm, hltj]
        exact ⟨by omega, (i + 1, q :: M), weak_lit (by simp [okS, okV, okC, okL, okH, okB, okE, mkV_cons, mkV_nil, mkH_cons, mkH_nil, wsA, ws, asA, as]) ⟨okB_a (l' := (q :: M).map acan) rfl, trivial⟩, ⟨by (try simp only); omega, hMM⟩, by (try simp only); omega⟩
    | q0 :: L0, hL, hLO, hLlen =>
     simp only [go_sem, ↓reduceIte, Nat.reduceEqDiff, Nat.reduceAdd, Nat.reduceLT, Nat.reduceLeDiff, Int.reduceToNat, Nat.reducePow, Nat.reduceMul, reduceCtorEq, hx', hn, hcm, hlt, hx, aC_eq]
     intro _
     refine wpA_loop (fun p : Nat × List Q2 => match p.2 with
       | [] => ⟨mkV [(1, asA m), (5, .one .emp), (7, .one (.ptr 7 1 0 0)), (12, asA l), (13, .one (.lit (.int .i64 l.length))), (14, .one (.lit (.int .i64 i))), (18, asA m), (19, .one (.lit (.int .i64 m.length))), (20, .one (.lit (.int .i64 p.1)))], mkH [(7, ⟨1, some ⟨[aC x], 6, true⟩⟩)]⟩
       | q :: L => ⟨mkV [(1, asA m), (5, .one (.own 43 1 6 0 (q :: L).length)), (7, .one (.ptr 7 1 0 0)), (12, asA l), (13, .one (.lit (.int .i64 l.length))), (14, .one (.lit (.int .i64 i))), (18, asA m), (19, .one (.lit (.int .i64 m.length))), (20, .one (.lit (.int .i64 p.1)))], mkH [(7, ⟨1, some ⟨[aC x], 6, true⟩⟩), (43, ⟨1, some ⟨((q :: L).map acan).map aC, 6, true⟩⟩)]⟩)
      (fun p => p.1 ≤ m.length ∧ p.2 = meetL (vals (l.take i)) (vals m) ++ (vals (m.take p.1)).flatMap (meet1 (av x)) ∧ p.2.length ≤ i * 1000 + p.1) (fun p => m.length - p.1) (0, meetL (vals (l.take i)) (vals m)) ?_ ?_ ?_
     ·rw [← hL]
      refine weak_lit (by simp [okS, okV, okC, okL, okH, okB, okE, mkV_cons, mkV_nil, mkH_cons, mkH_nil, wsA, ws, asA, as]) ?_
      first | exact ⟨okB_a1, trivial⟩ | exact ⟨okB_a1, okB_a (l' := (q0 :: L0).map acan) rfl, trivial⟩
     ·exact ⟨Nat.zero_le _, by simp [vals], by rw [← hL]; exact hLlen⟩
     ·rintro ⟨j, M⟩ ⟨hj, hM, hMl⟩
      simp only at hj hM hMl
      by_cases hltj : j < m.length
      ·obtain ⟨y, hy⟩ : ∃ y, m.getD j a0 = y := ⟨_, rfl⟩
       have hy0 : m[j]? = some y := by rw [← hy, List.getD_eq_getElem?_getD, List.getElem?_eq_getElem hltj]; rfl
       have hoy := hokm y (List.mem_of_getElem? hy0)
       have hy1 : rl y.1 ≤ 1000000000 := Nat.le_trans (Nat.le_max_left _ _) hoy.2
       have hy2 : rl y.2 ≤ 1000000000 := Nat.le_trans (Nat.le_max_right _ _) hoy.2
       have hy1' : rl y.1 ≤ 4294967296 := by omega
       have hy2' : rl y.2 ≤ 4294967296 := by omega
       have hy3 := hoy.1.1
       have hy4 := hoy.1.2
       have rf : rz (if rv y.1 ≤ rv x.1 then rv x.1 else rv y.1) ≤ 4294967296 := Nat.le_trans (rz_mx rx1 (Nat.le_trans (rz_rv hy3) hy1)) (by decide)
       have rt : rz (if rv x.2 ≤ rv y.2 then rv x.2 else rv y.2) ≤ 4294967296 := Nat.le_trans (rz_mn rx2 (Nat.le_trans (rz_rv hy4) hy2)) (by decide)
       generalize hf : (if rv y.1 ≤ rv x.1 then rv x.1 else rv y.1) = fr at *
       generalize ht : (if rv x.2 ≤ rv y.2 then rv x.2 else rv y.2) = tt at *
       have hm1 : meet1 (av x) (av y) = not1 fr tt := by rw [← hf, ← ht]; rfl
       have hstep : (vals (m.take (j + 1))).flatMap (meet1 (av x)) = (vals (m.take j)).flatMap (meet1 (av x)) ++ not1 fr tt := by
        rw [List.take_add_one, hy0, ← hm1]; simp [vals]
       match M, hM, hMl with
       | [], hM, hMl =>
        simp only [go_sem, ↓reduceIte, Nat.reduceEqDiff, Nat.reduceAdd, Nat.reduceLT, Nat.reduceLeDiff, Int.reduceToNat, Nat.reducePow, Nat.reduceMul, reduceCtorEq, hx', hn, hcm, hltj, hy, aC_eq, hx1', hx2', hx3, hx4, hy1', hy2', hy3, hy4, hf, ht, rf, rt, ordQ_lt]
        refine ⟨fun hc1 => ⟨by simp, by omega, (j + 1, [(fr, tt)]), weak_lit (by simp [okS, okV, okC, okL, okH, okB, okE, mkV_cons, mkV_nil, mkH_cons, mkH_nil, wsA, ws, asA, as]) ?_, ⟨by (try simp only); omega, ?_, by (try simp only [List.length_cons, List.length_nil]); omega⟩, by (try simp only); omega⟩, fun hc1 => ⟨by omega, (j + 1, []), weak_lit (by simp [okS, okV, okC, okL, okH, okB, okE, mkV_cons, mkV_nil, mkH_cons, mkH_nil, wsA, ws, asA, as]) ⟨okB_a1, trivial⟩, ⟨by (try simp only); omega, ?_, by (try simp only [List.length_nil]); omega⟩, by (try simp only); omega⟩⟩
        ·refine ⟨okB_a1, okB_a (l' := ([(fr, tt)] : List Q2).map acan) ?_, trivial⟩
         simp [aC, acan]
        ·rw [hstep, ← List.append_assoc, ← hM]; unfold not1; rw [if_pos hc1]; rfl
        ·rw [hstep, ← List.append_assoc, ← hM]; unfold not1; rw [if_neg hc1]; rfl
       | q :: M, hM, hMl =>
        have hMl2 : M.length + 1 ≤ i * 1000 + j := by simpa using hMl
        simp only [go_sem, ↓reduceIte, Nat.reduceEqDiff, Nat.reduceAdd, Nat.reduceLT, Nat.reduceLeDiff, Int.reduceToNat, Nat.reducePow, Nat.reduceMul, reduceCtorEq, hx', hn, hcm, hltj, hy, aC_eq, hx1', hx2', hx3, hx4, hy1', hy2', hy3, hy4, hf, ht, rf, rt, ordQ_lt]
        refine ⟨fun hc1 => ⟨by simp, by omega, by omega, (j + 1, q :: (M ++ [(fr, tt)])), weak_lit (by simp [okS, okV, okC, okL, okH, okB, okE, mkV_cons, mkV_nil, mkH_cons, mkH_nil, wsA, ws, asA, as]) ?_, ⟨by (try simp only); omega, ?_, by (try simp only [List.length_cons, List.length_append, List.length_nil]); omega⟩, by (try simp only); omega⟩, fun hc1 => ⟨by omega, (j + 1, q :: M), weak_lit (by simp [okS, okV, okC, okL, okH, okB, okE, mkV_cons, mkV_nil, mkH_cons, mkH_nil, wsA, ws, asA, as]) ?_, ⟨by (try simp only); omega, ?_, by (try simp only [List.length_cons]); omega⟩, by (try simp only); omega⟩⟩
        ·refine ⟨okB_a1, okB_a (l' := (q :: (M ++ [(fr, tt)]) : List Q2).map acan) ?_, trivial⟩
         simp [aC, acan]
        ·rw [hstep, ← List.append_assoc, ← hM]; unfold not1; rw [if_pos hc1]; rfl
        ·exact ⟨okB_a1, okB_a (l' := (q :: M).map acan) rfl, trivial⟩
        ·rw [hstep, ← List.append_assoc, ← hM]; unfold not1; rw [if_neg hc1]; simp
      ·have hMM : M = meetL (vals (l.take (i + 1))) (vals m) := by
        rw [hM, hLO, ← hL, List.take_of_length_le (by omega)]
       match M, hM, hMM with
       | [], hM, hMM =>
        simp only [go_sem, ↓reduceIte, Nat.reduceEqDiff, Nat.reduceAdd, Nat.reduceLT, Nat.reduceLeDiff, Int.reduceToNat, Nat.reducePow, Nat.reduceMul, reduceCtorEq, hx', hn, hcm, hltj]
        exact ⟨by omega, (i + 1, []), weak_lit (by simp [okS, okV, okC, okL, okH, okB, okE, mkV_cons, mkV_nil, mkH_cons, mkH_nil, wsA, ws, asA, as]) trivial, ⟨by (try simp only); omega, hMM⟩, by (try simp only); omega⟩
       | q :: M, hM, hMM =>
        simp only [go_sem, ↓reduceIte, Nat.reduceEqDiff, Nat.reduceAdd, Nat.reduceLT, Nat.reduceLeDiff, Int.reduceToNat, Nat.reducePow, Nat.reduceMul, reduceCtorEq, hx', hn, hcm, hltj]
        exact ⟨by omega, (i + 1, q :: M), weak_lit (by simp [okS, okV, okC, okL, okH, okB, okE, mkV_cons, mkV_nil, mkH_cons, mkH_nil, wsA, ws, asA, as]) ⟨okB_a (l' := (q :: M).map acan) rfl, trivial⟩, ⟨by (try simp only); omega, hMM⟩, by (try simp only); omega⟩
   ·rw [List.take_of_length_le (by omega)] at hL
    rw [← hL] at hK
    match L, hL, hK with
    | [], hL, hK =>
     simp only [go_sem, ↓reduceIte, Nat.reduceEqDiff, Nat.reduceAdd, Nat.reduceLT, Nat.reduceLeDiff, Int.reduceToNat, Nat.reducePow, Nat.reduceMul, reduceCtorEq, hx', hn, hcm, hlt]
     exact hK
    | q :: L, hL, hK =>
     simp only [go_sem, ↓reduceIte, Nat.reduceEqDiff, Nat.reduceAdd, Nat.reduceLT, Nat.reduceLeDiff, Int.reduceToNat, Nat.reducePow, Nat.reduceMul, reduceCtorEq, hx', hn, hcm, hlt, List.length_append]
     have e2 : aC (acan q) :: List.map aC (List.map acan L) = ((q :: L).map acan).map aC := rfl
     rw [e2]
     simp only [go_sem, ↓reduceIte, Nat.reduceEqDiff, Nat.reduceAdd, Nat.reduceLT, Nat.reduceLeDiff, Int.reduceToNat, Nat.reducePow, Nat.reduceMul, reduceCtorEq]
     exact hK
end Go.Abs
end
section
set_option linter.unusedVariables false
set_option linter.unusedSimpArgs false
set_option maxRecDepth 100000
namespace Go.Num
def res (c : Nat) (L : List Q2) : List Q2 := if c = 0 then lim64 L else []
def cod (c : Nat) (L : List Q2) : Nat := if c = 0 then code64 L else c
theorem chk_2 {l k : List Arc} (h : chk [l, k] = 0) : chk [l] = 0 ∧ chk [k] = 0 := by
 unfold chk at h
 split at h
 ·contradiction
 ·rename_i h1
  exact ⟨by rw [chk_1]; simpa using h1, h⟩
theorem chk_20 {l k : List Arc} (h : chk [l] = 0) (h' : chk [k] = 0) : chk [l, k] = 0 := by
 rw [chk_1] at h
 unfold chk
 rw [if_neg (by simp [h])]; exact h'
theorem vals_append (l k : List Arc) : vals (l ++ k) = vals l ++ vals k := by simp [vals]
theorem posA_append {l k : List Arc} (h : PosA l) (h' : PosA k) : PosA (l ++ k) := fun x hx => (List.mem_append.1 hx).elim (h x) (h' x)
theorem pos_of_posA {l : List Arc} (h : PosA l) : Pos (vals l) := fun a ha => by
 obtain ⟨x, hx, rfl⟩ := List.mem_map.1 ha; exact h x hx
end Go.Num
namespace Go.Abs
open Go.Num
variable {P : Program} {Γ : Nat → Spec}
def cUnion_G (tE m : Nat) (l : List AV) (K : AV → Prop) : Prop :=
 match l with
 | [a, b] => onAs (fun l => onAs (fun k => (chk [l, k] = 0 → l.length + k.length ≤ m) ∧ okAs 10000000 l ∧ okAs 10000000 k ∧ K (.tup [.one (.slice (((res (chk [l, k]) (nrm (vals l ++ vals k))).map acan).map aC)), errV tE (cod (chk [l, k]) (nrm (vals l ++ vals k)))])) b) a
 | _ => False
theorem cUnion_Ge (tE m : Nat) (a b : AV) (K : AV → Prop) : cUnion_G tE m [a, b] K = (onAs (fun l => onAs (fun k => (chk [l, k] = 0 → l.length + k.length ≤ m) ∧ okAs 10000000 l ∧ okAs 10000000 k ∧ K (.tup [.one (.slice (((res (chk [l, k]) (nrm (vals l ++ vals k))).map acan).map aC)), errV tE (cod (chk [l, k]) (nrm (vals l ++ vals k)))])) b) a) := propext Iff.rfl
@[congr] theorem cUnion_Gc (tE m : Nat) {K : AV → Prop} {l l' : List AV} (h : l = l') : cUnion_G tE m l K = cUnion_G tE m l' K := by subst h; rfl
attribute [go_sem] cUnion_Ge
attribute [go_sem ↓] cUnion_Ge
theorem cUnion_good (tE m : Nat) : Good (cUnion_G tE m) := good_of fun as => by
 unfold cUnion_G
 split
 ·repeat (first | exact .ret _ | exact .of (fun K hk => hk.elim) | (refine .and fun _ => ?_) | (refine g_onWs fun _ => ?_) | (refine g_onAs fun _ => ?_) | (refine g_asInt (fun _ _ => ?_) _) | (refine g_asBool (fun _ => ?_) _) | (refine g_onE ?_ ?_) | (intro _) | assumption)
 ·exact .of fun K hk => hk.elim
def cMeet_G (tE m : Nat) (l : List AV) (K : AV → Prop) : Prop :=
 match l with
 | [a, b] => onAs (fun l => onAs (fun k => (chk [l, k] = 0 → l.length ≤ m ∧ k.length ≤ m) ∧ okAs 10000000 l ∧ okAs 10000000 k ∧ K (.tup [.one (.slice (((res (chk [l, k]) (meetL (nrm (vals l)) (nrm (vals k)))).map acan).map aC)), errV tE (cod (chk [l, k]) (meetL (nrm (vals l)) (nrm (vals k))))])) b) a
 | _ => False
theorem cMeet_Ge (tE m : Nat) (a b : AV) (K : AV → Prop) : cMeet_G tE m [a, b] K = (onAs (fun l => onAs (fun k => (chk [l, k] = 0 → l.length ≤ m ∧ k.length ≤ m) ∧ okAs 10000000 l ∧ okAs 10000000 k ∧ K (.tup [.one (.slice (((res (chk [l, k]) (meetL (nrm (vals l)) (nrm (vals k)))).map acan).map aC)), errV tE (cod (chk [l, k]) (meetL (nrm (vals l)) (nrm (vals k))))])) b) a) := propext Iff.rfl
@[congr] theorem cMeet_Gc (tE m : Nat) {K : AV → Prop} {l l' : List AV} (h : l = l') : cMeet_G tE m l K = cMeet_G tE m l' K := by subst h; rfl
attribute [go_sem] cMeet_Ge
attribute [go_sem ↓] cMeet_Ge
theorem cMeet_good (tE m : Nat) : Good (cMeet_G tE m) := good_of fun as => by
 unfold cMeet_G
 split
 ·repeat (first | exact .ret _ | exact .of (fun K hk => hk.elim) | (refine .and fun _ => ?_) | (refine g_onWs fun _ => ?_) | (refine g_onAs fun _ => ?_) | (refine g_asInt (fun _ _ => ?_) _) | (refine g_asBool (fun _ => ?_) _) | (refine g_onE ?_ ?_) | (intro _) | assumption)
 ·exact .of fun K hk => hk.elim
def cNot_G (tE m : Nat) (l : List AV) (K : AV → Prop) : Prop :=
 match l with
 | [a] => onAs (fun l => (chk [l] = 0 → l.length ≤ m) ∧ okAs 10000000 l ∧ K (.tup [.one (.slice (((res (chk [l]) (notL (nrm (vals l)))).map acan).map aC)), errV tE (cod (chk [l]) (notL (nrm (vals l))))])) a
 | _ => False
theorem cNot_Ge (tE m : Nat) (a : AV) (K : AV → Prop) : cNot_G tE m [a] K = (onAs (fun l => (chk [l] = 0 → l.length ≤ m) ∧ okAs 10000000 l ∧ K (.tup [.one (.slice (((res (chk [l]) (notL (nrm (vals l)))).map acan).map aC)), errV tE (cod (chk [l]) (notL (nrm (vals l))))])) a) := propext Iff.rfl
@[congr] theorem cNot_Gc (tE m : Nat) {K : AV → Prop} {l l' : List AV} (h : l = l') : cNot_G tE m l K = cNot_G tE m l' K := by subst h; rfl
attribute [go_sem] cNot_Ge
attribute [go_sem ↓] cNot_Ge
theorem cNot_good (tE m : Nat) : Good (cNot_G tE m) := good_of fun as => by
 unfold cNot_G
 split
 ·repeat (first | exact .ret _ | exact .of (fun K hk => hk.elim) | (refine .and fun _ => ?_) | (refine g_onWs fun _ => ?_) | (refine g_onAs fun _ => ?_) | (refine g_asInt (fun _ _ => ?_) _) | (refine g_asBool (fun _ => ?_) _) | (refine g_onE ?_ ?_) | (intro _) | assumption)
 ·exact .of fun K hk => hk.elim
def ac_chart_Union (f0 f1 f2 f3 : Nat) : AC := (.seq (.ops false [.m 4 (.c (.one .emp)), .m 5 (.c (.one (.lit .nilIface)))])
 (.fg [0, 1] (.seq (.seq (.ops false [.m 7 (.t 0), .m 8 (.t 1), .u 9 (.row 1 [[.x 1 (.t 7)], [.x 1 (.t 8)]]), .u 10 (.call f0 [(.t 9)]), .m 6 (.t 10)])
 (.fg [0, 1, 6] (.seq (.ops false [.m 11 (.t 6), .u 12 (.binn .neq (.t 11) (.c (.one (.lit .nilIface))))])
 (.fg [0, 1, 6, 12] (.cond (.t 12) (.seq (.ops false [.m 13 (.t 6), .m 4 (.c (.one .emp)), .m 5 (.t 13)])
 .ret) .skip)))))
 (.fg [0, 1] (.seq (.ops false [.m 14 (.t 0), .u 15 (.callf f1 [(.t 14)]), .m 16 (.t 1), .u 17 (.app 6 (.t 15) (.t 16)), .u 18 (.call f2 [(.t 17)]), .u 19 (.call f3 [(.t 18)]), .u 20 (.ext 0 (.t 19)), .u 21 (.ext 1 (.t 19)), .m 4 (.t 20), .m 5 (.t 21)])
 .ret)))))
def ac_chart_Meet (f0 f1 f2 f3 : Nat) : AC := (.seq (.ops false [.m 4 (.c (.one .emp)), .m 5 (.c (.one (.lit .nilIface)))])
 (.fg [0, 1] (.seq (.seq (.ops false [.m 7 (.t 0), .m 8 (.t 1), .u 9 (.row 1 [[.x 1 (.t 7)], [.x 1 (.t 8)]]), .u 10 (.call f0 [(.t 9)]), .m 6 (.t 10)])
 (.fg [0, 1, 6] (.seq (.ops false [.m 11 (.t 6), .u 12 (.binn .neq (.t 11) (.c (.one (.lit .nilIface))))])
 (.fg [0, 1, 6, 12] (.cond (.t 12) (.seq (.ops false [.m 13 (.t 6), .m 4 (.c (.one .emp)), .m 5 (.t 13)])
 .ret) .skip)))))
 (.fg [0, 1] (.seq (.ops false [.m 14 (.t 0), .u 15 (.call f1 [(.t 14)]), .m 16 (.t 1), .u 17 (.call f1 [(.t 16)]), .u 18 (.call f2 [(.t 15), (.t 17)]), .u 19 (.call f3 [(.t 18)]), .u 20 (.ext 0 (.t 19)), .u 21 (.ext 1 (.t 19)), .m 4 (.t 20), .m 5 (.t 21)])
 .ret)))))
def ac_chart_Not (f0 f1 f2 f3 : Nat) : AC := (.seq (.ops false [.m 2 (.c (.one .emp)), .m 3 (.c (.one (.lit .nilIface)))])
 (.fg [0] (.seq (.seq (.ops false [.m 5 (.t 0), .u 6 (.row 1 [[.x 1 (.t 5)]]), .u 7 (.call f0 [(.t 6)]), .m 4 (.t 7)])
 (.fg [0, 4] (.seq (.ops false [.m 8 (.t 4), .u 9 (.binn .neq (.t 8) (.c (.one (.lit .nilIface))))])
 (.fg [0, 4, 9] (.cond (.t 9) (.seq (.ops false [.m 10 (.t 4), .m 2 (.c (.one .emp)), .m 3 (.t 10)])
 .ret) .skip)))))
 (.fg [0] (.seq (.ops false [.m 11 (.t 0), .u 12 (.call f1 [(.t 11)]), .u 13 (.call f2 [(.t 12)]), .u 14 (.call f3 [(.t 13)]), .u 15 (.ext 0 (.t 14)), .u 16 (.ext 1 (.t 14)), .m 2 (.t 15), .m 3 (.t 16)])
 .ret)))))
theorem dat_errV (h : Nat → HB) (tE c : Nat) : datA h (errV tE c) = errV tE c := eq_of_heq (HEq.refl _)
attribute [go_sem] dat_errV
theorem lim_fin {tE : Nat} {L : List Q2} {K : AV → Prop} (h : K (.tup [.one (.slice (((res 0 L).map acan).map aC)), errV tE (cod 0 L)])) : K (.tup [.one (.slice ((if 64 < (L.map acan).length then [] else L.map acan).map aC)), errV tE (if 64 < (L.map acan).length then 4 else 0)]) := by
 unfold res cod lim64 code64 at h
 rw [if_pos rfl, if_pos rfl] at h
 rw [List.length_map]
 split
 ·rename_i h1; rw [if_pos h1, if_pos h1] at h; exact h
 ·rename_i h1; rw [if_neg h1, if_neg h1] at h; exact h
theorem cUnion_sound (hΓ : Holds P Γ) {f fk fl fn fm tE m : Nat} (hm : m ≤ 1000) (hk : Γ fk = .dat false (ccheck_G tE)) (hl : Γ fl = .fresh 6 clone_G) (hn : Γ fn = .dat false (cnorm_G m)) (hli : Γ fm = .dat false (climit_G tE)) (hc : check P f = some (22, (ac_chart_Union fk fl fn fm).strip, [.tmp 4, .tmp 5])) : Sound P f (.dat false (cUnion_G tE m)) := by
 refine sound_dat hc (cUnion_good tE m) hΓ (fun args K hcl hfi hG => ?_)
 match args, hG with
 | [a, b], hG =>
  obtain ⟨l, rfl, hwl, k, rfl, hwk, hlm, hok, hokk, hK⟩ := hG
  refine ⟨by simp, ?_⟩
  have o1 : okAs 4294967296 l := okAs_mono hok (by decide)
  have o2 : okAs 4294967296 k := okAs_mono hokk (by decide)
  have oo : ∀ z ∈ [l, k], okAs 4294967296 z := by
   intro z hz
   simp only [List.mem_cons, List.not_mem_nil, or_false] at hz
   rcases hz with rfl | rfl <;> assumption
  by_cases h0 : chk [l, k] = 0
  ·obtain ⟨h1, h2⟩ := chk_2 h0
   have hlm' := hlm h0
   rw [h0] at hK
   have hfin := lim_fin hK
   rw [← vals_append, List.length_map] at hfin
   simp only [go_sem, ↓reduceIte, Nat.reduceEqDiff, Nat.reduceAdd, Nat.reduceLT, Nat.reduceLeDiff, Int.reduceToNat, Nat.reducePow, Nat.reduceMul, reduceCtorEq, ac_chart_Union, hk, hl, hn, hli, h0, errV_0, List.length_append]
   exact ⟨⟨hwl, hwk⟩, oo, hwl, by omega, by omega, (fun z hz => (List.mem_append.1 hz).elim (hwl z) (hwk z)), by omega, okAs_append.2 ⟨o1, o2⟩, posA_append (chk_pos h1) (chk_pos h2), WLA_cans _, hfin⟩
  ·simp only [res, cod, h0, if_false, errV_s tE h0, List.map_nil] at hK
   simp only [go_sem, ↓reduceIte, Nat.reduceEqDiff, Nat.reduceAdd, Nat.reduceLT, Nat.reduceLeDiff, Int.reduceToNat, Nat.reducePow, Nat.reduceMul, reduceCtorEq, ac_chart_Union, hk, hl, hn, hli, h0, errV_s tE h0]
   exact ⟨⟨hwl, hwk⟩, oo, hK⟩
theorem cMeet_sound (hΓ : Holds P Γ) {f fk fn fe fm tE m : Nat} (hm : m ≤ 1000) (hk : Γ fk = .dat false (ccheck_G tE)) (hn : Γ fn = .dat false (cnorm_G m)) (he : Γ fe = .dat false cmeet_G) (hli : Γ fm = .dat false (climit_G tE)) (hc : check P f = some (22, (ac_chart_Meet fk fn fe fm).strip, [.tmp 4, .tmp 5])) : Sound P f (.dat false (cMeet_G tE m)) := by
 refine sound_dat hc (cMeet_good tE m) hΓ (fun args K hcl hfi hG => ?_)
 match args, hG with
 | [a, b], hG =>
  obtain ⟨l, rfl, hwl, k, rfl, hwk, hlm, hok, hokk, hK⟩ := hG
  refine ⟨by simp, ?_⟩
  have o1 : okAs 4294967296 l := okAs_mono hok (by decide)
  have o2 : okAs 4294967296 k := okAs_mono hokk (by decide)
  have oo : ∀ z ∈ [l, k], okAs 4294967296 z := by
   intro z hz
   simp only [List.mem_cons, List.not_mem_nil, or_false] at hz
   rcases hz with rfl | rfl <;> assumption
  by_cases h0 : chk [l, k] = 0
  ·obtain ⟨h1, h2⟩ := chk_2 h0
   obtain ⟨hlm1, hlm2⟩ := hlm h0
   rw [h0] at hK
   have hfin := lim_fin hK
   rw [List.length_map] at hfin
   have n1 := nrm_len (vals l)
   have n2 := nrm_len (vals k)
   simp only [vals, List.length_map] at n1 n2
   simp only [go_sem, ↓reduceIte, Nat.reduceEqDiff, Nat.reduceAdd, Nat.reduceLT, Nat.reduceLeDiff, Int.reduceToNat, Nat.reducePow, Nat.reduceMul, reduceCtorEq, ac_chart_Meet, hk, hn, he, hli, h0, errV_0, vals_can]
   exact ⟨⟨hwl, hwk⟩, oo, hwl, hlm1, o1, chk_pos h1, hwk, hlm2, o2, chk_pos h2, WLA_cans _, WLA_cans _, by simp only [vals]; omega, by simp only [vals]; omega, okAs_mono (okAs_nrm hok) (by decide), okAs_mono (okAs_nrm hokk) (by decide), WLA_cans _, hfin⟩
  ·simp only [res, cod, h0, if_false, errV_s tE h0, List.map_nil] at hK
   simp only [go_sem, ↓reduceIte, Nat.reduceEqDiff, Nat.reduceAdd, Nat.reduceLT, Nat.reduceLeDiff, Int.reduceToNat, Nat.reducePow, Nat.reduceMul, reduceCtorEq, ac_chart_Meet, hk, hn, he, hli, h0, errV_s tE h0]
   exact ⟨⟨hwl, hwk⟩, oo, hK⟩
theorem cNot_sound (hΓ : Holds P Γ) {f fk fn fe fm tE m : Nat} (hm : m ≤ 1000) (hk : Γ fk = .dat false (ccheck_G tE)) (hn : Γ fn = .dat false (cnorm_G m)) (he : Γ fe = .dat false cnot_G) (hli : Γ fm = .dat false (climit_G tE)) (hc : check P f = some (17, (ac_chart_Not fk fn fe fm).strip, [.tmp 2, .tmp 3])) : Sound P f (.dat false (cNot_G tE m)) := by
 refine sound_dat hc (cNot_good tE m) hΓ (fun args K hcl hfi hG => ?_)
 match args, hG with
 | [a], hG =>
  obtain ⟨l, rfl, hwl, hlm, hok, hK⟩ := hG
  refine ⟨by simp, ?_⟩
  have o1 : okAs 4294967296 l := okAs_mono hok (by decide)
  have oo : ∀ z ∈ [l], okAs 4294967296 z := by
   intro z hz
   rw [List.mem_singleton] at hz; subst hz; exact o1
  by_cases h0 : chk [l] = 0
  ·have hlm' := hlm h0
   rw [h0] at hK
   have hfin := lim_fin hK
   rw [List.length_map] at hfin
   have n1 := nrm_len (vals l)
   simp only [vals, List.length_map] at n1
   simp only [go_sem, ↓reduceIte, Nat.reduceEqDiff, Nat.reduceAdd, Nat.reduceLT, Nat.reduceLeDiff, Int.reduceToNat, Nat.reducePow, Nat.reduceMul, reduceCtorEq, ac_chart_Not, hk, hn, he, hli, h0, errV_0, vals_can]
   exact ⟨hwl, oo, hwl, hlm', o1, chk_pos h0, WLA_cans _, by simp only [vals]; omega, okAs_mono (okAs_nrm hok) (by decide), WLA_cans _, hfin⟩
  ·simp only [res, cod, h0, if_false, errV_s tE h0, List.map_nil] at hK
   simp only [go_sem, ↓reduceIte, Nat.reduceEqDiff, Nat.reduceAdd, Nat.reduceLT, Nat.reduceLeDiff, Int.reduceToNat, Nat.reducePow, Nat.reduceMul, reduceCtorEq, ac_chart_Not, hk, hn, he, hli, h0, errV_s tE h0]
   exact ⟨hwl, oo, hK⟩
end Go.Abs
end
section
set_option linter.unusedVariables false
namespace Go.Num
theorem mem_not1 {x f t : Rat} : memL x (not1 f t) ↔ f ≤ x ∧ x < t := by
 unfold not1
 split
 ·simp [memL_cons, memL_nil, mem]
 ·rename_i h
  constructor
  ·intro h'; exact absurd h' (memL_nil x)
  ·rintro ⟨h1, h2⟩; exact absurd (lt_of_le_of_lt h1 h2) h
theorem pos_not1 (f t : Rat) : Pos (not1 f t) := by
 intro q hq
 unfold not1 at hq
 split at hq
 ·rw [List.mem_singleton] at hq; subst hq; assumption
 ·simp at hq
theorem in_not1 {f t : Rat} {q : Q2} (hq : q ∈ not1 f t) : q.1 = f ∧ q.2 = t := by
 unfold not1 at hq
 split at hq
 ·rw [List.mem_singleton] at hq; subst hq; exact ⟨rfl, rfl⟩
 ·simp at hq
theorem notGo_ok : ∀ (l : List Q2) (f : Rat), f ≤ 1 → Pos l → Apart l → (∀ a ∈ l, f ≤ a.1) → (∀ a ∈ l, a.2 ≤ 1) →
  (∀ x, memL x (notGo f l) ↔ f ≤ x ∧ x < 1 ∧ ¬ memL x l) ∧ Pos (notGo f l) ∧ Apart (notGo f l) ∧ ∀ q ∈ notGo f l, f ≤ q.1 ∧ q.2 ≤ 1
 | [], f, hf, _, _, _, _ => by
  refine ⟨fun x => ?_, pos_not1 _ _, ?_, fun q hq => ?_⟩
  ·rw [notGo, mem_not1]
   exact ⟨fun ⟨h1, h2⟩ => ⟨h1, h2, memL_nil x⟩, fun ⟨h1, h2, _⟩ => ⟨h1, h2⟩⟩
  ·unfold notGo not1; split <;> simp [Apart]
  ·obtain ⟨h1, h2⟩ := in_not1 hq
   rw [h1, h2]; exact ⟨Rat.le_refl, Rat.le_refl⟩
 | a :: l, f, hf, hp, ha, hlo, hhi => by
  obtain ⟨a1, a2⟩ := List.pairwise_cons.1 ha
  have pa := hp a (by simp)
  have h1 := hhi a (by simp)
  have h0 := hlo a (by simp)
  obtain ⟨m, p, ap, b⟩ := notGo_ok l a.2 h1 (fun q hq => hp q (by simp [hq])) a2 (fun q hq => Rat.le_of_lt (a1 q hq)) (fun q hq => hhi q (by simp [hq]))
  refine ⟨fun x => ?_, ?_, ?_, ?_⟩
  ·rw [notGo, memL_append, mem_not1, m x, memL_cons]
   unfold mem
   constructor
   ·rintro (⟨g1, g2⟩ | ⟨g1, g2, g3⟩)
    ·refine ⟨g1, by grind, fun h => ?_⟩
     rcases h with h | h
     ·grind
     ·obtain ⟨c, hc, hc1, hc2⟩ := h
      have := a1 c hc
      grind
    ·refine ⟨by grind, g2, fun h => ?_⟩
     rcases h with h | h
     ·grind
     ·exact g3 h
   ·rintro ⟨g1, g2, g3⟩
    by_cases hx : x < a.1
    ·exact .inl ⟨g1, hx⟩
    ·refine .inr ⟨?_, g2, fun h => g3 (.inr h)⟩
     refine Rat.not_lt.1 fun h => g3 (.inl ⟨Rat.not_lt.1 hx, h⟩)
  ·intro q hq
   rw [notGo] at hq
   rcases List.mem_append.1 hq with hq | hq
   ·exact pos_not1 _ _ q hq
   ·exact p q hq
  ·rw [notGo]
   refine List.pairwise_append.2 ⟨by unfold not1; split <;> simp, ap, fun q hq r hr => ?_⟩
   obtain ⟨_, e2⟩ := in_not1 hq
   have := (b r hr).1
   grind
  ·intro q hq
   rw [notGo] at hq
   rcases List.mem_append.1 hq with hq | hq
   ·obtain ⟨e1, e2⟩ := in_not1 hq
    rw [e1, e2]
    exact ⟨Rat.le_refl, by grind⟩
   ·obtain ⟨g1, g2⟩ := b q hq
    exact ⟨by grind, g2⟩
theorem notL_ok {l : List Q2} (hp : Pos l) (ha : Apart l) (hi : In01 l) : (∀ x, memL x (notL l) ↔ 0 ≤ x ∧ x < 1 ∧ ¬ memL x l) ∧ Pos (notL l) ∧ Apart (notL l) ∧ In01 (notL l) :=
 notGo_ok l 0 (by decide) hp ha (fun a h => (hi a h).1) (fun a h => (hi a h).2)
theorem mx_le {p q x : Rat} : mxQ p q ≤ x ↔ p ≤ x ∧ q ≤ x := by unfold mxQ; split <;> grind
theorem lt_mn {p q x : Rat} : x < mnQ p q ↔ x < p ∧ x < q := by unfold mnQ; split <;> grind
theorem le_mx1 (p q : Rat) : p ≤ mxQ p q := by unfold mxQ; split <;> grind
theorem le_mx2 (p q : Rat) : q ≤ mxQ p q := by unfold mxQ; split <;> grind
theorem mn_le1 (p q : Rat) : mnQ p q ≤ p := by unfold mnQ; split <;> grind
theorem mn_le2 (p q : Rat) : mnQ p q ≤ q := by unfold mnQ; split <;> grind
theorem mem_meet1 {x : Rat} {p q : Q2} : memL x (meet1 p q) ↔ mem x p ∧ mem x q := by
 unfold meet1
 rw [mem_not1, mx_le, lt_mn]
 unfold mem
 exact ⟨fun ⟨⟨a, b⟩, c, d⟩ => ⟨⟨a, c⟩, b, d⟩, fun ⟨⟨a, c⟩, b, d⟩ => ⟨⟨a, b⟩, c, d⟩⟩
theorem memL_flat {α : Type} {x : Rat} {f : α → List Q2} {l : List α} : memL x (l.flatMap f) ↔ ∃ a ∈ l, memL x (f a) := by
 unfold memL
 constructor
 ·rintro ⟨q, hq, hx⟩
  obtain ⟨a, ha, hqa⟩ := List.mem_flatMap.1 hq
  exact ⟨a, ha, q, hqa, hx⟩
 ·rintro ⟨a, ha, q, hq, hx⟩
  exact ⟨q, List.mem_flatMap.2 ⟨a, ha, hq⟩, hx⟩
theorem mem_meetL {x : Rat} {a b : List Q2} : memL x (meetL a b) ↔ memL x a ∧ memL x b := by
 unfold meetL
 rw [memL_flat]
 constructor
 ·rintro ⟨p, hp, h⟩
  obtain ⟨q, hq, h⟩ := memL_flat.1 h
  obtain ⟨h1, h2⟩ := mem_meet1.1 h
  exact ⟨⟨p, hp, h1⟩, ⟨q, hq, h2⟩⟩
 ·rintro ⟨⟨p, hp, h1⟩, ⟨q, hq, h2⟩⟩
  exact ⟨p, hp, memL_flat.2 ⟨q, hq, mem_meet1.2 ⟨h1, h2⟩⟩⟩
theorem in_meet1 {p q u : Q2} (h : u ∈ meet1 p q) : u.1 = mxQ p.1 q.1 ∧ u.2 = mnQ p.2 q.2 := in_not1 h
theorem pos_meetL (a b : List Q2) : Pos (meetL a b) := by
 intro u hu
 obtain ⟨p, hp, hu⟩ := List.mem_flatMap.1 hu
 obtain ⟨q, hq, hu⟩ := List.mem_flatMap.1 hu
 exact pos_not1 _ _ u hu
theorem apart_flat {α : Type} {f : α → List Q2} : ∀ {l : List α}, (∀ x ∈ l, Apart (f x)) → l.Pairwise (fun x y => ∀ u ∈ f x, ∀ v ∈ f y, u.2 < v.1) → Apart (l.flatMap f)
 | [], _, _ => by simp [Apart]
 | x :: l, h1, h2 => by
  obtain ⟨h3, h4⟩ := List.pairwise_cons.1 h2
  rw [List.flatMap_cons]
  refine List.pairwise_append.2 ⟨h1 x (by simp), apart_flat (fun y hy => h1 y (by simp [hy])) h4, fun u hu v hv => ?_⟩
  obtain ⟨y, hy, hv⟩ := List.mem_flatMap.1 hv
  exact h3 y hy u hu v hv
theorem apart_meetL {a b : List Q2} (ha : Apart a) (hb : Apart b) : Apart (meetL a b) := by
 refine apart_flat (fun x hx => apart_flat (fun y hy => ?_) (hb.imp ?_)) (ha.imp ?_)
 ·unfold meet1 not1; split <;> simp [Apart]
 ·intro y y' hyy u hu v hv
  rw [(in_meet1 hu).2, (in_meet1 hv).1]
  have := mn_le2 x.2 y.2
  have := le_mx2 x.1 y'.1
  grind
 ·intro x x' hxx u hu v hv
  obtain ⟨y, hy, hu⟩ := List.mem_flatMap.1 hu
  obtain ⟨y', hy', hv⟩ := List.mem_flatMap.1 hv
  rw [(in_meet1 hu).2, (in_meet1 hv).1]
  have := mn_le1 x.2 y.2
  have := le_mx1 x'.1 y'.1
  grind
theorem len_sub {α : Type} [DecidableEq α] : ∀ {l m : List α}, l.Nodup → (∀ x ∈ l, x ∈ m) → l.length ≤ m.length
 | [], m, _, _ => Nat.zero_le _
 | x :: l, m, h, hs => by
  obtain ⟨h1, h2⟩ := List.nodup_cons.1 h
  have hx := hs x (by simp)
  have := len_sub (m := m.erase x) h2 fun y hy => (List.mem_erase_of_ne (fun e : y = x => h1 (by rw [← e]; exact hy))).2 (hs y (by simp [hy]))
  rw [List.length_erase_of_mem hx] at this
  have := List.length_pos_of_mem hx
  simp only [List.length_cons]; omega
theorem apart_starts {l : List Q2} (hp : Pos l) (ha : Apart l) : (l.map Prod.fst).Nodup := by
 refine List.pairwise_map.2 ?_
 refine List.Pairwise.imp_of_mem (fun {a b} h1 h2 hab e => ?_) ha
 have := hp a h1
 grind
theorem meetL_few {a b : List Q2} (ha : Apart a) (hb : Apart b) : (meetL a b).length ≤ a.length + b.length := by
 have h := len_sub (l := (meetL a b).map Prod.fst) (m := a.map Prod.fst ++ b.map Prod.fst) (apart_starts (pos_meetL a b) (apart_meetL ha hb)) (fun x hx => by
  obtain ⟨u, hu, rfl⟩ := List.mem_map.1 hx
  obtain ⟨p, hp, hu⟩ := List.mem_flatMap.1 hu
  obtain ⟨q, hq, hu⟩ := List.mem_flatMap.1 hu
  rw [(in_meet1 hu).1]
  unfold mxQ
  split
  ·exact List.mem_append.2 (.inl (List.mem_map.2 ⟨p, hp, rfl⟩))
  ·exact List.mem_append.2 (.inr (List.mem_map.2 ⟨q, hq, rfl⟩)))
 simpa using h
theorem in_meetL {a b : List Q2} (ha : In01 a) : In01 (meetL a b) :=
 in01_of (pos_meetL a b) fun x hx => in01_mem ha (mem_meetL.1 hx).1
end Go.Num
end
section
set_option linter.unusedVariables false
namespace Go.Num
structure NQ (b n : Nat) (L : List Q2) : Prop where
 pos : Pos L
 ap : Apart L
 in1 : In01 L
 len : L.length ≤ n
 rz : rzQ b L
theorem NQ.mono {b n b' n' : Nat} {L : List Q2} (h : NQ b n L) (hb : b ≤ b') (hn : n ≤ n') : NQ b' n' L :=
 ⟨h.pos, h.ap, h.in1, Nat.le_trans h.len hn, fun q hq => ⟨Nat.le_trans (h.rz q hq).1 hb, Nat.le_trans (h.rz q hq).2 hb⟩⟩
theorem NQ.chk {b n : Nat} {L : List Q2} (h : NQ b n L) (hn : n ≤ 64) : Go.Num.chk [L.map acan] = 0 := chk_can (Nat.le_trans h.len hn) h.pos h.in1
theorem NQ.ok {b n c : Nat} {L : List Q2} (h : NQ b n L) (hb : b ≤ c) : okAs c (L.map acan) := okAs_can fun q hq => ⟨Nat.le_trans (h.rz q hq).1 hb, Nat.le_trans (h.rz q hq).2 hb⟩
theorem NQ.res {b n : Nat} {L : List Q2} (h : NQ b n L) (hn : n ≤ 64) : Go.Num.res 0 L = L := by
 have := h.len
 unfold Go.Num.res lim64
 rw [if_pos rfl, if_neg (by omega)]
theorem NQ.cod {b n : Nat} {L : List Q2} (h : NQ b n L) (hn : n ≤ 64) : Go.Num.cod 0 L = 0 := by
 have := h.len
 unfold Go.Num.cod code64
 rw [if_pos rfl, if_neg (by omega)]
theorem NQ.nrm {b n : Nat} {L : List Q2} (h : NQ b n L) : Go.Num.nrm L = L := nrm_eq h.pos h.pos h.ap fun x => Iff.rfl
theorem nq_nrm {b n : Nat} {L : List Q2} (hp : Pos L) (hi : In01 L) (hl : L.length ≤ n) (hr : rzQ b L) : NQ b n (Go.Num.nrm L) :=
 ⟨(nrm_ok hp).1, (nrm_ok hp).2.1, nrm_in hp hi, Nat.le_trans (nrm_len L) hl, rzQ_nrm hr⟩
theorem nq_not {b n : Nat} {L : List Q2} (h : NQ b n L) (hb : 2 ≤ b) : NQ b (n + 1) (notL L) := by
 obtain ⟨h1, h2, h3, h4⟩ := notL_ok h.pos h.ap h.in1
 refine ⟨h2, h3, h4, Nat.le_trans (notL_len L) (Nat.succ_le_succ h.len), fun q hq => ?_⟩
 unfold notL at hq
 rw [notGo_gaps] at hq
 obtain ⟨g1, g2⟩ := rz_gaps (b := b) L 0 (by rw [rz_zero]; exact Nat.zero_le _) h.rz
 rcases List.mem_append.1 hq with hq | hq
 ·exact g1 q hq
 ·obtain ⟨e1, e2⟩ := in_not1 hq
  rw [e1, e2]
  exact ⟨g2, Nat.le_trans rz_one hb⟩
theorem nq_meet {b n m : Nat} {L M : List Q2} (h : NQ b n L) (k : NQ b m M) : NQ b (n + m) (meetL L M) := by
 refine ⟨pos_meetL L M, apart_meetL h.ap k.ap, in_meetL h.in1, Nat.le_trans (meetL_few h.ap k.ap) (Nat.add_le_add h.len k.len), fun u hu => ?_⟩
 obtain ⟨p, hp, hu⟩ := List.mem_flatMap.1 hu
 obtain ⟨q, hq, hu⟩ := List.mem_flatMap.1 hu
 rw [(in_meet1 hu).1, (in_meet1 hu).2]
 exact ⟨rz_mx (h.rz p hp).1 (k.rz q hq).1, rz_mn (h.rz p hp).2 (k.rz q hq).2⟩
theorem any_can (y : Rat) (L : List Q2) : (L.map acan).any (inA y) = decide (memL y L) := by rw [any_mem, vals_can]
theorem nq_val {l : List Arc} {b : Nat} (h : chk [l] = 0) (hl : l.length ≤ 20) (ho : okAs b l) : NQ b 20 (nrm (vals l)) :=
 nq_nrm (chk_val h).1 (chk_val h).2 (by simpa [vals] using hl) (rzQ_vals ho)
theorem not_not {b n : Nat} {L : List Q2} (h : NQ b n L) (hb : 2 ≤ b) : notL (notL L) = L := by
 obtain ⟨h1, h2, h3, h4⟩ := notL_ok h.pos h.ap h.in1
 obtain ⟨k1, k2, k3, k4⟩ := notL_ok h2 h3 h4
 refine chart_ext k2 k3 h.pos h.ap fun x => ?_
 rw [k1 x, h1 x]
 constructor
 ·rintro ⟨a, b, c⟩
  by_cases hx : memL x L
  ·exact hx
  ·exact absurd ⟨a, b, hx⟩ c
 ·intro hx
  obtain ⟨a, b⟩ := in01_mem h.in1 hx
  exact ⟨a, b, fun ⟨_, _, c⟩ => c hx⟩
end Go.Num
end
section
set_option linter.unusedVariables false
namespace Go.Num
def mu : List Q2 → Rat
 | [] => 0
 | q :: l => (q.2 - q.1) + mu l
theorem mu_append : ∀ (l m : List Q2), mu (l ++ m) = mu l + mu m
 | [], m => by simp [mu]; grind
 | q :: l, m => by simp only [List.cons_append, mu]; rw [mu_append l m]; grind
def cl (f t : Rat) : Rat := if f < t then t - f else 0
theorem mu_not1 (f t : Rat) : mu (not1 f t) = cl f t := by
 unfold not1 cl; split <;> simp [mu]; grind
def cm (p q : Q2) : Rat := cl (mxQ p.1 q.1) (mnQ p.2 q.2)
theorem mu_meet1 (p q : Q2) : mu (meet1 p q) = cm p q := mu_not1 _ _
def sm (a : List Q2) (q : Q2) : Rat := match a with | [] => 0 | p :: a => cm p q + sm a q
theorem cm_comm (p q : Q2) : cm p q = cm q p := by
 unfold cm cl mxQ mnQ
 grind
theorem sm_append : ∀ (a b : List Q2) (q : Q2), sm (a ++ b) q = sm a q + sm b q
 | [], b, q => by simp [sm]; grind
 | p :: a, b, q => by simp only [List.cons_append, sm]; rw [sm_append a b q]; grind
def ss : List Q2 → List Q2 → Rat
 | _, [] => 0
 | a, q :: b => sm a q + ss a b
theorem mu_row (p : Q2) : ∀ b : List Q2, mu (b.flatMap fun q => meet1 p q) = sm b p
 | [] => by simp [mu, sm]
 | q :: b => by
  rw [List.flatMap_cons, mu_append, mu_row p b, mu_meet1, sm, cm_comm]
theorem ss_cons (p : Q2) (a : List Q2) : ∀ b : List Q2, ss (p :: a) b = sm b p + ss a b
 | [] => by simp [ss, sm]; grind
 | q :: b => by
  simp only [ss, sm]
  rw [ss_cons p a b, cm_comm q p]; grind
theorem mu_meet : ∀ a b : List Q2, mu (meetL a b) = ss a b
 | [], b => by
  have : ∀ b : List Q2, ss [] b = 0 := by
   intro b
   induction b with
   | nil => rfl
   | cons q b ih => simp only [ss, sm]; rw [ih]; grind
  rw [this]; rfl
 | p :: a, b => by
  have h : meetL (p :: a) b = (b.flatMap fun q => meet1 p q) ++ meetL a b := by simp [meetL]
  rw [h, mu_append, mu_row, mu_meet a b, ss_cons]
theorem ss_append (a a' : List Q2) : ∀ b : List Q2, ss (a ++ a') b = ss a b + ss a' b
 | [] => by simp [ss]; grind
 | q :: b => by simp only [ss]; rw [ss_append a a' b, sm_append]; grind
theorem ss_comm (a b : List Q2) : ss a b = ss b a := by
 induction a with
 | nil =>
  induction b with
  | nil => rfl
  | cons q b ih => rw [ss_cons, ← ih]; simp only [ss, sm]; try grind
 | cons p a ih => rw [ss_cons, ih]; simp only [ss]
theorem cm_split {f m t : Rat} {q : Q2} (h1 : f ≤ m) (h2 : m ≤ t) : cm (f, m) q + cm (m, t) q = cm (f, t) q := by
 unfold cm cl mxQ mnQ
 grind
theorem sm_not1 (f t : Rat) (q : Q2) : sm (not1 f t) q = cm (f, t) q := by
 unfold not1
 split
 ·simp only [sm]; grind
 ·simp only [sm]; unfold cm cl mxQ mnQ; grind
theorem sm_fill : ∀ (l : List Q2) (f : Rat) (q : Q2), f ≤ 1 → Pos l → Apart l → (∀ a ∈ l, f ≤ a.1) → (∀ a ∈ l, a.2 ≤ 1) → sm l q + sm (notGo f l) q = cm (f, 1) q
 | [], f, q, hf, _, _, _, _ => by
  rw [notGo, sm_not1]; simp only [sm]; grind
 | a :: l, f, q, hf, hp, ha, hlo, hhi => by
  obtain ⟨a1, a2⟩ := List.pairwise_cons.1 ha
  have pa := hp a (by simp)
  have h1 := hhi a (by simp)
  have h0 := hlo a (by simp)
  have ih := sm_fill l a.2 q h1 (fun q hq => hp q (by simp [hq])) a2 (fun q hq => Rat.le_of_lt (a1 q hq)) (fun q hq => hhi q (by simp [hq]))
  rw [notGo, sm_append, sm_not1]
  have s1 := cm_split (q := q) h0 (Rat.le_of_lt pa)
  have s2 := cm_split (f := f) (m := a.2) (t := 1) (q := q) (by grind) h1
  have e : cm (a.1, a.2) q = cm a q := rfl
  rw [e] at s1
  simp only [sm]
  grind
theorem cm_whole {q : Q2} (hp : q.1 < q.2) (h0 : 0 ≤ q.1) (h1 : q.2 ≤ 1) : cm (0, 1) q = q.2 - q.1 := by
 unfold cm cl mxQ mnQ
 grind
theorem ss_fill {a : List Q2} (pa : Pos a) (aa : Apart a) (ia : In01 a) : ∀ {b : List Q2}, Pos b → In01 b → ss a b + ss (notL a) b = mu b
 | [], _, _ => by simp [ss, mu]; grind
 | q :: b, pb, ib => by
  have ih := ss_fill pa aa ia (b := b) (fun x hx => pb x (by simp [hx])) (fun x hx => ib x (by simp [hx]))
  have h := sm_fill a 0 q (by decide) pa aa (fun x hx => (ia x hx).1) (fun x hx => (ia x hx).2)
  rw [cm_whole (pb q (by simp)) (ib q (by simp)).1 (ib q (by simp)).2] at h
  have e : notGo 0 a = notL a := rfl
  rw [e] at h
  simp only [ss, mu]
  grind
theorem mu_fill : ∀ (l : List Q2) (f : Rat), f ≤ 1 → Pos l → Apart l → (∀ a ∈ l, f ≤ a.1) → (∀ a ∈ l, a.2 ≤ 1) → mu l + mu (notGo f l) = 1 - f
 | [], f, hf, _, _, _, _ => by
  rw [notGo, mu_not1]; simp only [mu]; unfold cl; grind
 | a :: l, f, hf, hp, ha, hlo, hhi => by
  obtain ⟨a1, a2⟩ := List.pairwise_cons.1 ha
  have pa := hp a (by simp)
  have h1 := hhi a (by simp)
  have h0 := hlo a (by simp)
  have ih := mu_fill l a.2 h1 (fun q hq => hp q (by simp [hq])) a2 (fun q hq => Rat.le_of_lt (a1 q hq)) (fun q hq => hhi q (by simp [hq]))
  rw [notGo, mu_append, mu_not1]
  simp only [mu]
  unfold cl
  grind
theorem mu_not {l : List Q2} (hp : Pos l) (ha : Apart l) (hi : In01 l) : mu l + mu (notL l) = 1 := by
 have := mu_fill l 0 (by decide) hp ha (fun x hx => (hi x hx).1) (fun x hx => (hi x hx).2)
 have e : notGo 0 l = notL l := rfl
 rw [e] at this
 grind
structure Nm (L : List Q2) : Prop where
 pos : Pos L
 ap : Apart L
 in1 : In01 L
theorem NQ.nm {b n : Nat} {L : List Q2} (h : NQ b n L) : Nm L := ⟨h.pos, h.ap, h.in1⟩
theorem nm_nrm {L : List Q2} (hp : Pos L) (hi : In01 L) : Nm (nrm L) := ⟨(nrm_ok hp).1, (nrm_ok hp).2.1, nrm_in hp hi⟩
theorem mu_union {a b u : List Q2} (ha : Nm a) (hb : Nm b) (hu : Nm u) (h : ∀ x, memL x u ↔ memL x a ∨ memL x b) : mu a + mu b = mu u + mu (meetL a b) := by
 obtain ⟨a1, a2, a3, a4⟩ := notL_ok ha.pos ha.ap ha.in1
 obtain ⟨b1, b2, b3, b4⟩ := notL_ok hb.pos hb.ap hb.in1
 obtain ⟨u1, u2, u3, u4⟩ := notL_ok hu.pos hu.ap hu.in1
 have e : notL u = meetL (notL a) (notL b) := by
  refine chart_ext u2 u3 (pos_meetL _ _) (apart_meetL a3 b3) fun x => ?_
  rw [u1 x, mem_meetL, a1 x, b1 x, h x]
  constructor
  ·rintro ⟨p, q, r⟩; exact ⟨⟨p, q, fun h => r (.inl h)⟩, p, q, fun h => r (.inr h)⟩
  ·rintro ⟨⟨p, q, r⟩, _, _, s⟩; exact ⟨p, q, fun h => h.elim r s⟩
 have m1 := mu_not hu.pos hu.ap hu.in1
 have m2 := mu_not ha.pos ha.ap ha.in1
 rw [e, mu_meet] at m1
 have f1 := ss_fill ha.pos ha.ap ha.in1 hb.pos hb.in1
 have f2 := ss_fill hb.pos hb.ap hb.in1 a2 a4
 rw [ss_comm b (notL a), ss_comm (notL b) (notL a)] at f2
 rw [mu_meet]
 grind
end Go.Num
end
section
set_option linter.unusedVariables false
namespace Go.Num
theorem frac_add (q : Rat) (n : Int) : frac (q + (n : Rat)) = frac q := by
 unfold frac
 rw [Rat.floor_add_intCast, Rat.intCast_add]
 grind
theorem frac_sub (q : Rat) (n : Int) : frac (q - (n : Rat)) = frac q := by
 have h := frac_add q (-n)
 rw [Rat.intCast_neg] at h
 rw [← h]
 congr 1
 grind
theorem frac_ex (q : Rat) : ∃ n : Int, frac q = q - (n : Rat) := ⟨q.floor, rfl⟩
theorem mem_sh1 {y : Rat} {a : Q2} (h0 : 0 ≤ a.1) (h1 : a.1 < a.2) (h2 : a.2 ≤ 1) {x : Rat} (hx0 : 0 ≤ x) (hx1 : x < 1) : memL x (sh1 y a) ↔ mem (frac (x - y)) a := by
 obtain ⟨n, hn⟩ := frac_ex (a.1 + y)
 have f0 := frac_ge (a.1 + y)
 have f1 := frac_lt (a.1 + y)
 obtain ⟨f, hf⟩ : ∃ f, f = frac (a.1 + y) := ⟨_, rfl⟩
 rw [← hf] at hn f0 f1
 obtain ⟨z, hz⟩ : ∃ z, z = a.1 + x - f := ⟨_, rfl⟩
 have ez : x - y = z - (n : Rat) := by grind
 have efr : frac (x - y) = frac z := by rw [ez, frac_sub]
 have hL : memL x (sh1 y a) ↔ (x < f + (a.2 - a.1) - 1 ∨ (f ≤ x ∧ x < f + (a.2 - a.1))) := by
  unfold sh1
  simp only [← hf]
  by_cases ht : 1 < f + (a.2 - a.1)
  ·rw [if_pos ht, if_pos f1, memL_cons, memL_cons]
   simp only [mem, memL_nil, or_false]
   grind
  ·rw [if_neg ht, if_pos (by grind), memL_cons]
   simp only [mem, memL_nil, or_false]
   grind
 rw [hL, efr]
 unfold mem
 by_cases c1 : z < 0
 ·have e : frac z = z + 1 := by
   have := frac_add z 1
   rw [← this]
   have e1 : ((1 : Int) : Rat) = 1 := rfl
   rw [e1]
   exact frac_01 (by grind) (by grind)
  rw [e]; grind
 ·by_cases c2 : z < 1
  ·rw [frac_01 (Rat.not_lt.1 c1) c2]; grind
  ·have e : frac z = z - 1 := by
    have := frac_sub z 1
    rw [← this]
    have e1 : ((1 : Int) : Rat) = 1 := rfl
    rw [e1]
    exact frac_01 (by grind) (by grind)
   rw [e]; grind
theorem in_sh1 {y : Rat} {a : Q2} (h1 : a.1 < a.2) (h3 : a.2 - a.1 ≤ 1) : In01 (sh1 y a) := by
 have f0 := frac_ge (a.1 + y)
 have f1 := frac_lt (a.1 + y)
 intro q hq
 unfold sh1 at hq
 simp only at hq
 generalize frac (a.1 + y) = f at *
 split at hq
 ·rcases List.mem_cons.1 hq with rfl | hq
  ·simp only; grind
  ·rw [List.mem_singleton] at hq; subst hq; simp only; grind
 ·split at hq
  ·rw [List.mem_singleton] at hq; subst hq; simp only; grind
  ·simp at hq
theorem pos_shL (y : Rat) (l : List Q2) : Pos (shL y l) := by
 intro q hq
 obtain ⟨a, _, ha⟩ := List.mem_flatMap.1 hq
 exact sh1_pos _ _ q ha
theorem in_shL {y : Rat} {l : List Q2} (hp : Pos l) (hi : In01 l) : In01 (shL y l) := by
 intro q hq
 obtain ⟨a, h, ha⟩ := List.mem_flatMap.1 hq
 exact in_sh1 (hp a h) (by have := hi a h; grind) q ha
theorem mem_shL {y : Rat} {l : List Q2} (hp : Pos l) (hi : In01 l) {x : Rat} (hx0 : 0 ≤ x) (hx1 : x < 1) : memL x (shL y l) ↔ memL (frac (x - y)) l := by
 unfold shL
 rw [memL_flat]
 constructor
 ·rintro ⟨a, ha, h⟩
  exact ⟨a, ha, (mem_sh1 (hi a ha).1 (hp a ha) (hi a ha).2 hx0 hx1).1 h⟩
 ·rintro ⟨a, ha, h⟩
  exact ⟨a, ha, (mem_sh1 (hi a ha).1 (hp a ha) (hi a ha).2 hx0 hx1).2 h⟩
theorem mem_shift {y : Rat} {l : List Q2} (hp : Pos l) (hi : In01 l) (x : Rat) : memL x (nrm (shL y l)) ↔ 0 ≤ x ∧ x < 1 ∧ memL (frac (x - y)) l := by
 rw [(nrm_ok (pos_shL y l)).2.2 x]
 constructor
 ·intro h
  obtain ⟨h0, h1⟩ := in01_mem (in_shL hp hi) h
  exact ⟨h0, h1, (mem_shL hp hi h0 h1).1 h⟩
 ·rintro ⟨h0, h1, h⟩
  exact (mem_shL hp hi h0 h1).2 h
theorem nm_shift {y : Rat} {l : List Q2} (hp : Pos l) (hi : In01 l) : Nm (nrm (shL y l)) := nm_nrm (pos_shL y l) (in_shL hp hi)
theorem shift_back {y : Rat} {l : List Q2} (hp : Pos l) (hi : In01 l) : nrm (shL (-y) (nrm (shL y l))) = nrm l := by
 have n1 := nm_shift (y := y) hp hi
 have n2 := nm_shift (y := -y) n1.pos n1.in1
 have n3 := nm_nrm hp hi
 refine chart_ext n2.pos n2.ap n3.pos n3.ap fun x => ?_
 rw [mem_shift n1.pos n1.in1, mem_shift hp hi, (nrm_ok hp).2.2 x]
 obtain ⟨n, hn⟩ := frac_ex (x - -y)
 have e : 0 ≤ x → x < 1 → frac (frac (x - -y) - y) = x := by
  intro h0 h1
  have : frac (x - -y) - y = x - (n : Rat) := by rw [hn]; grind
  rw [this, frac_sub, frac_01 h0 h1]
 constructor
 ·rintro ⟨h0, h1, _, _, h⟩
  rw [e h0 h1] at h; exact h
 ·intro h
  obtain ⟨h0, h1⟩ := in01_mem hi h
  exact ⟨h0, h1, frac_ge _, frac_lt _, by rw [e h0 h1]; exact h⟩
def Dj (p q : Q2) : Prop := ∀ x, ¬ (mem x p ∧ mem x q)
theorem mu_nrm_dj : ∀ {D : List Q2}, Pos D → In01 D → D.Pairwise Dj → mu (nrm D) = mu D
 | [], _, _, _ => by rw [nrm_eq (l := []) (m := []) (by simp [Pos]) (by simp [Pos]) (by simp [Apart]) fun x => Iff.rfl]
 | d :: D, hp, hi, hd => by
  obtain ⟨d1, d2⟩ := List.pairwise_cons.1 hd
  have pD : Pos D := fun q hq => hp q (by simp [hq])
  have iD : In01 D := fun q hq => hi q (by simp [hq])
  have ih := mu_nrm_dj pD iD d2
  have n1 : Nm [d] := ⟨fun q hq => hp q (by simp at hq; simp [hq]), by simp [Apart], fun q hq => hi q (by simp at hq; simp [hq])⟩
  have n2 := nm_nrm pD iD
  have n3 := nm_nrm hp hi
  have hu := mu_union n1 n2 n3 fun x => by rw [(nrm_ok hp).2.2 x, (nrm_ok pD).2.2 x, memL_cons, memL_cons]; simp [memL_nil]
  have he : meetL [d] (nrm D) = [] := by
   cases h : meetL [d] (nrm D) with
   | nil => rfl
   | cons u l =>
    exfalso
    have hu : u ∈ meetL [d] (nrm D) := by rw [h]; simp
    have hm : memL u.1 (meetL [d] (nrm D)) := ⟨u, hu, Rat.le_refl, pos_meetL _ _ u hu⟩
    rw [mem_meetL, (nrm_ok pD).2.2] at hm
    obtain ⟨⟨p, hp1, hp2⟩, ⟨q, hq1, hq2⟩⟩ := hm
    rw [List.mem_singleton] at hp1
    subst hp1
    exact d1 q hq1 u.1 ⟨hp2, hq2⟩
  rw [he, ih] at hu
  simp only [mu] at hu ⊢
  grind
theorem dj_flat {α : Type} {f : α → List Q2} : ∀ {l : List α}, (∀ x ∈ l, (f x).Pairwise Dj) → l.Pairwise (fun x y => ∀ u ∈ f x, ∀ v ∈ f y, Dj u v) → (l.flatMap f).Pairwise Dj
 | [], _, _ => by simp
 | x :: l, h1, h2 => by
  obtain ⟨h3, h4⟩ := List.pairwise_cons.1 h2
  rw [List.flatMap_cons]
  refine List.pairwise_append.2 ⟨h1 x (by simp), dj_flat (fun y hy => h1 y (by simp [hy])) h4, fun u hu v hv => ?_⟩
  obtain ⟨y, hy, hv⟩ := List.mem_flatMap.1 hv
  exact h3 y hy u hu v hv
theorem mu_sh1 {y : Rat} {a : Q2} (h1 : a.1 < a.2) : mu (sh1 y a) = a.2 - a.1 := by
 have f1 := frac_lt (a.1 + y)
 unfold sh1
 simp only
 generalize frac (a.1 + y) = f at *
 split
 ·simp only [mu]; grind
 ·rw [if_pos (by grind)]; simp only [mu]; grind
theorem mu_shL {y : Rat} : ∀ {l : List Q2}, Pos l → mu (shL y l) = mu l
 | [], _ => rfl
 | a :: l, hp => by
  have h : shL y (a :: l) = sh1 y a ++ shL y l := by simp [shL]
  rw [h, mu_append, mu_shL (l := l) fun q hq => hp q (by simp [hq]), mu_sh1 (hp a (by simp))]; rfl
theorem mu_shift {y : Rat} {l : List Q2} (hp : Pos l) (hi : In01 l) : mu (nrm (shL y l)) = mu (nrm l) := by
 have nA := nm_nrm hp hi
 have e : nrm (shL y l) = nrm (shL y (nrm l)) := by
  have n1 := nm_shift (y := y) hp hi
  have n2 := nm_shift (y := y) nA.pos nA.in1
  refine chart_ext n1.pos n1.ap n2.pos n2.ap fun x => ?_
  rw [mem_shift hp hi, mem_shift nA.pos nA.in1, (nrm_ok hp).2.2]
 rw [e, mu_nrm_dj (pos_shL _ _) (in_shL nA.pos nA.in1), mu_shL nA.pos]
 refine dj_flat (fun a ha => ?_) ?_
 ·have h1 := nA.pos a ha
  have h2 := nA.in1 a ha
  have f1 := frac_lt (a.1 + y)
  unfold sh1
  simp only
  generalize frac (a.1 + y) = f at *
  split
  ·refine List.pairwise_cons.2 ⟨fun q hq => ?_, by simp⟩
   rw [List.mem_singleton] at hq; subst hq
   rintro x ⟨⟨g1, g2⟩, g3, g4⟩
   simp only at g1 g2 g3 g4
   grind
  ·split <;> simp
 ·refine List.Pairwise.imp_of_mem (fun {a b} ha hb hab u hu v hv => ?_) nA.ap
  rintro x ⟨hx1, hx2⟩
  have ia := nA.in1 a ha
  have ib := nA.in1 b hb
  have pa := nA.pos a ha
  have pb := nA.pos b hb
  have hm : memL x (sh1 y a) := ⟨u, hu, hx1⟩
  have hm' : memL x (sh1 y b) := ⟨v, hv, hx2⟩
  obtain ⟨x0, x1⟩ := in01_mem (in_sh1 pa (by grind)) hm
  have g1 := ((mem_sh1 ia.1 pa ia.2 x0 x1).1 hm).2
  have g2 := ((mem_sh1 ib.1 pb ib.2 x0 x1).1 hm').1
  grind
end Go.Num
end
section
set_option linter.unusedVariables false
namespace Go.Abs
open Go.Num
def rC (x : R) : List C := [cb x, cn x, cd x]
theorem rC_eq (x : R) : rC x = [cb x, cn x, cd x] := eq_of_heq (HEq.refl _)
theorem len_rC (x : R) : (rC x).length = 3 := eq_of_heq (HEq.refl _)
theorem getE_rC (K : List C → Prop) (L : List R) (i : Nat) : getE K (L.map rC) i = (i < L.length ∧ K (rC (L.getD i (rcan 0)))) := by
 simp only [getE, List.length_map, List.getElem?_map]
 refine propext ⟨fun h => ⟨h.1, h.2 _ (by simp [h.1, List.getD_eq_getElem?_getD])⟩, fun h => ⟨h.1, fun e he => ?_⟩⟩
 simp [h.1] at he
 subst he
 have := h.2
 simpa [List.getD_eq_getElem?_getD, h.1] using this
theorem clean_rC (l : List R) : CleanR (l.map rC) = True := eq_true fun e he c hc => by
 obtain ⟨x, _, rfl⟩ := List.mem_map.1 he
 exact clean_ref3 x c hc
theorem all_rC (L : List R) : (∀ e ∈ L.map rC, e.length = 3) = True := eq_true fun e he => by
 obtain ⟨l, _, rfl⟩ := List.mem_map.1 he; rfl
theorem dats_rC (h : Nat → HB) (L : List R) : (L.map rC).map (fun x => x.map (datC h)) = L.map rC := by
 rw [List.map_map]; exact List.map_congr_left fun x _ => rfl
theorem owns_rC (L : List R) : (L.map rC).flatMap (fun x => x.flatMap ownC) = [] := by
 rw [List.flatMap_map]; exact List.flatMap_eq_nil_iff.2 fun x _ => rfl
theorem dats_lC (h : Nat → HB) (L : List (List Arc)) : (L.map lC).map (fun x => x.map (datC h)) = L.map lC := by
 rw [List.map_map]; exact List.map_congr_left fun x _ => rfl
theorem owns_lC (L : List (List Arc)) : (L.map lC).flatMap (fun x => x.flatMap ownC) = [] := by
 rw [List.flatMap_map]; exact List.flatMap_eq_nil_iff.2 fun x _ => rfl
theorem frz_nil (h : Nat → HB) : frz [] h = h := eq_of_heq (HEq.refl _)
attribute [go_sem] len_rC getE_rC clean_rC all_rC dats_rC owns_rC dats_lC owns_lC frz_nil
attribute [go_sem ↓] len_rC getE_rC clean_rC all_rC dats_rC owns_rC dats_lC owns_lC frz_nil
theorem okB_rC {h h' : Nat → HB} {z : Nat} {b : Bool} {es : List (List C)} {S : List R} (e : es = S.map rC) : okB h h' (some ⟨es, z, b⟩) (some ⟨S.map rC, z, b⟩) := by
 subst e
 exact ⟨⟨rfl, rfl⟩, .inl ⟨rfl, of_eq_true (clean_rC S)⟩⟩
theorem app_rC (S : List R) (x : R) : S.map rC ++ [[cb x, cn x, cd x]] = (S ++ [x]).map rC := by simp [rC]
end Go.Abs
end
section
set_option linter.unusedVariables false
set_option linter.unusedSimpArgs false
set_option maxRecDepth 100000
namespace Go.Num
def lenQ (l : List Arc) : Rat := if chk [l] = 0 then mu (nrm (vals l)) else 0
theorem mu_take {L : List Q2} {k : Nat} {q : Q2} (h : L[k]? = some q) : mu (L.take (k + 1)) = mu (L.take k) + (q.2 - q.1) := by
 rw [List.take_add_one, h, Option.toList_some, mu_append]
 simp only [mu]; grind
theorem rz_mu {b : Nat} : ∀ (L : List Q2), rzQ b L → rz (mu L) ≤ L.length * (2 * b + 4)
 | [], _ => by simp only [mu, rz_zero]; exact Nat.zero_le _
 | q :: L, h => by
  have ih := rz_mu L fun x hx => h x (by simp [hx])
  have hq := h q (by simp)
  have h1 := rz_sub q.2 q.1
  have h2 := rz_add (q.2 - q.1) (mu L)
  simp only [mu, List.length_cons, Nat.add_mul, Nat.one_mul]
  omega
end Go.Num
namespace Go.Abs
open Go.Num
variable {P : Program} {Γ : Nat → Spec}
def cLength_G (tE m : Nat) (l : List AV) (K : AV → Prop) : Prop :=
 match l with
 | [a] => onAs (fun l => (chk [l] = 0 → l.length ≤ m) ∧ okAs 10000000 l ∧ K (.tup [.agg [cb (rcan (lenQ l)), cn (rcan (lenQ l)), cd (rcan (lenQ l))], errV tE (chk [l])])) a
 | _ => False
theorem cLength_Ge (tE m : Nat) (a : AV) (K : AV → Prop) : cLength_G tE m [a] K = (onAs (fun l => (chk [l] = 0 → l.length ≤ m) ∧ okAs 10000000 l ∧ K (.tup [.agg [cb (rcan (lenQ l)), cn (rcan (lenQ l)), cd (rcan (lenQ l))], errV tE (chk [l])])) a) := propext Iff.rfl
@[congr] theorem cLength_Gc (tE m : Nat) {K : AV → Prop} {l l' : List AV} (h : l = l') : cLength_G tE m l K = cLength_G tE m l' K := by subst h; rfl
attribute [go_sem] cLength_Ge
attribute [go_sem ↓] cLength_Ge
theorem cLength_good (tE m : Nat) : Good (cLength_G tE m) := good_of fun as => by
 unfold cLength_G
 split
 ·repeat (first | exact .ret _ | exact .of (fun K hk => hk.elim) | (refine .and fun _ => ?_) | (refine g_onWs fun _ => ?_) | (refine g_onR fun _ => ?_) | (refine g_onAs fun _ => ?_) | (refine g_asInt (fun _ _ => ?_) _) | (refine g_asBool (fun _ => ?_) _) | (refine g_onE ?_ ?_) | (intro _) | assumption)
 ·exact .of fun K hk => hk.elim
def ac_chart_Length (f0 f1 f2 f3 : Nat) : AC := (.seq (.ops false [.u 2 (.alloc [(.lit (.bool false)), .emp, .emp]), .m 3 (.c (.one (.lit .nilIface)))])
 (.fg [0, 2] (.seq (.seq (.ops false [.m 8 (.t 0), .u 9 (.row 1 [[.x 1 (.t 8)]]), .u 10 (.call f0 [(.t 9)]), .m 4 (.t 10)])
 (.fg [0, 2, 4] (.seq (.ops false [.m 11 (.t 4), .u 12 (.binn .neq (.t 11) (.c (.one (.lit .nilIface))))])
 (.fg [0, 2, 4, 12] (.cond (.t 12) (.seq (.ops false [.u 13 (.build [.z [(.lit (.bool false)), .emp, .emp]]), .m 14 (.t 4), .n (.st none 3 (.t 2) (.t 13)), .m 3 (.t 14)])
 .ret) .skip)))))
 (.fg [0, 2] (.seq (.ops false [.u 5 (.alloc [(.lit (.bool false)), .emp, .emp])])
 (.fg [0, 2, 5] (.seq (.seq (.ops false [.m 15 (.t 0), .u 16 (.call f1 [(.t 15)]), .u 17 (.len (.t 16)), .m 18 (.i 0)])
 (.fg [2, 5, 16, 17, 18] (.block 0 (.loop (.seq (.ops false [.u 19 (.bin .lss (.t 18) (.t 17))])
 (.fg [2, 5, 16, 17, 18, 19] (.seq (.cond (.t 19) .skip (.exit 0))
 (.fg [2, 5, 16, 17, 18] (.seq (.block 1 (.seq (.ops false [.u 20 (.idx 6 (.t 16) (.t 18)), .u 21 (.ld none 6 true (.t 20)), .u 7 (.alloc [(.lit (.bool false)), .emp, .emp, (.lit (.bool false)), .emp, .emp]), .n (.st none 6 (.t 7) (.t 21))])
 (.fg [2, 5, 7, 16, 17, 18] (.ops true [.u 22 (.ld none 3 true (.t 5)), .u 23 (.fa 3 (.t 7)), .u 24 (.ld none 3 true (.t 23)), .u 25 (.fa 0 (.t 7)), .u 26 (.ld none 3 true (.t 25)), .u 27 (.call f2 [(.t 24), (.t 26)]), .u 28 (.call f3 [(.t 22), (.t 27)]), .n (.st none 3 (.t 5) (.t 28))]))))
 (.fg [2, 5, 16, 17, 18] (.ops false [.u 29 (.bin .add (.t 18) (.i 1)), .m 18 (.t 29)])))))))))))
 (.fg [2, 5] (.seq (.ops false [.u 30 (.ld none 3 true (.t 5)), .n (.st none 3 (.t 2) (.t 30)), .m 3 (.c (.one (.lit .nilIface)))])
 .ret)))))))))
theorem okB_z {h h' : Nat → HB} {z : Nat} {b : Bool} : okB h h' (some ⟨[[.lit (.bool false), .emp, .emp]], z, b⟩) (some ⟨[[.lit (.bool false), .emp, .emp]], z, b⟩) :=
 ⟨⟨rfl, rfl⟩, .inr ⟨⟨rfl, trivial, trivial, trivial⟩, trivial⟩⟩
theorem cLength_sound (hΓ : Holds P Γ) {f fk fn fs fa tE m : Nat} (hm : m ≤ 200) (hk : Γ fk = .dat false (ccheck_G tE)) (hn : Γ fn = .dat false (cnorm_G m)) (hs : Γ fs = .dat false rsub_G) (ha : Γ fa = .dat false radd_G) (hc : check P f = some (31, (ac_chart_Length fk fn fs fa).strip, [.cell 2 3 true, .tmp 3])) : Sound P f (.dat false (cLength_G tE m)) := by
 refine sound_dat hc (cLength_good tE m) hΓ (fun args K hcl hfi hG => ?_)
 match args, hG with
 | [a], hG =>
  obtain ⟨l, rfl, hwl, hlm, hok, hK⟩ := hG
  refine ⟨by simp, ?_⟩
  have oo : ∀ z ∈ [l], okAs 4294967296 z := by
   intro z hz
   rw [List.mem_singleton] at hz; subst hz; exact okAs_mono hok (by decide)
  by_cases h0 : chk [l] = 0
  ·have hlm' := hlm h0
   obtain ⟨L, hL⟩ : ∃ L, L = nrm (vals l) := ⟨_, rfl⟩
   have lL : L.length ≤ m := by
    have := nrm_len (vals l)
    rw [hL]; simp only [vals, List.length_map] at *; omega
   have rL : rzQ 10000000 L := by rw [hL]; exact rzQ_nrm (rzQ_vals hok)
   unfold lenQ at hK
   rw [if_pos h0, h0, errV_0, ← hL] at hK
   simp only [go_sem, ↓reduceIte, Nat.reduceEqDiff, Nat.reduceAdd, Nat.reduceLT, Nat.reduceLeDiff, Int.reduceToNat, Nat.reducePow, Nat.reduceMul, reduceCtorEq, ac_chart_Length, hk, hn, hs, ha, h0, errV_0, ← hL]
   refine ⟨hwl, oo, hwl, hlm', okAs_mono hok (by decide), chk_pos h0, fun _ => ?_⟩
   refine wpA_loop (fun k : Nat => ⟨mkV [(2, .one (.ptr 2 1 0 0)), (5, .one (.ptr 5 1 0 0)), (16, asA (L.map acan)), (17, .one (.lit (.int .i64 L.length))), (18, .one (.lit (.int .i64 k)))], mkH [(2, ⟨1, some ⟨[[.lit (.bool false), .emp, .emp]], 3, true⟩⟩), (5, ⟨1, some ⟨[[cb (rcan (mu (L.take k))), cn (rcan (mu (L.take k))), cd (rcan (mu (L.take k)))]], 3, true⟩⟩)]⟩)
    (fun k => k ≤ L.length) (fun k => L.length - k) 0 ?_ ?_ ?_
   ·exact weak_lit (by simp [okS, okV, okC, okL, okH, okB, okE, mkV_cons, mkV_nil, mkH_cons, mkH_nil, wsA, ws, asA, as]) ⟨okB_z, okB_0 rfl, trivial⟩
   ·exact Nat.zero_le _
   ·intro k hkl
    have rk : rz (mu (L.take k)) ≤ 4294967296 := by
     have h1 := rz_mu (L.take k) (fun q hq => rL q (List.mem_of_mem_take hq))
     have h2 : (L.take k).length ≤ 200 := by rw [List.length_take]; omega
     have h3 := Nat.mul_le_mul_right (2 * 10000000 + 4) h2
     omega
    by_cases hlt : k < L.length
    ·obtain ⟨q, hq⟩ : ∃ q, L[k]? = some q := ⟨L[k], List.getElem?_eq_getElem hlt⟩
     have hx : (L.map acan).getD k a0 = acan q := by
      rw [List.getD_eq_getElem?_getD, List.getElem?_map, hq]; rfl
     have hrq := rL q (List.mem_of_getElem? hq)
     have r1 : rz q.1 ≤ 4294967296 := by omega
     have r2 : rz q.2 ≤ 4294967296 := by omega
     have r3 : rz (q.2 - q.1) ≤ 4294967296 := by have := rz_sub q.2 q.1; omega
     simp only [go_sem, ↓reduceIte, Nat.reduceEqDiff, Nat.reduceAdd, Nat.reduceLT, Nat.reduceLeDiff, Int.reduceToNat, Nat.reducePow, Nat.reduceMul, reduceCtorEq, hk, hn, hs, ha, hlt, hx, aC_eq, acan, r1, r2, r3, rk]
     refine ⟨by omega, k + 1, weak_lit (by simp [okS, okV, okC, okL, okH, okB, okE, mkV_cons, mkV_nil, mkH_cons, mkH_nil, wsA, ws, asA, as]) ?_, by omega, by omega⟩
     rw [mu_take hq]
     exact ⟨okB_z, okB_r, trivial⟩
    ·have e : L.take k = L := List.take_of_length_le (by omega)
     simp only [go_sem, ↓reduceIte, Nat.reduceEqDiff, Nat.reduceAdd, Nat.reduceLT, Nat.reduceLeDiff, Int.reduceToNat, Nat.reducePow, Nat.reduceMul, reduceCtorEq, hk, hn, hs, ha, hlt, e]
     exact hK
  ·unfold lenQ at hK
   rw [if_neg h0, rcan_zero, errV_s tE h0] at hK
   simp only [go_sem, ↓reduceIte, Nat.reduceEqDiff, Nat.reduceAdd, Nat.reduceLT, Nat.reduceLeDiff, Int.reduceToNat, Nat.reducePow, Nat.reduceMul, reduceCtorEq, ac_chart_Length, hk, hn, hs, ha, h0, errV_s tE h0]
   exact ⟨hwl, oo, hK⟩
end Go.Abs
end
section
set_option linter.unusedVariables false
set_option linter.unusedSimpArgs false
set_option maxRecDepth 100000
namespace Go.Num
theorem getM {α : Type} (U V : List α) (x d : α) {n : Nat} (h : U.length = n) : (U ++ x :: V).getD n d = x := by
 subst h
 simp [List.getD_eq_getElem?_getD]
theorem setM {α : Type} (U V : List α) (x y : α) {n : Nat} (h : U.length = n) : (U ++ x :: V).set n y = U ++ y :: V := by
 subst h
 rw [List.set_append_right _ _ (Nat.le_refl _), Nat.sub_self, List.set_cons_zero]
end Go.Num
namespace Go.Abs
open Go.Num
variable {P : Program} {Γ : Nat → Spec}
def swp_G (fc : Nat) (d : Option Nat) (args : List AV) (h : Nat → HB) (K : AV → (Nat → HB) → Prop) : Prop :=
 match args with
 | [.one (.own r ver 6 0 len), .one (.lit (.int .i64 a)), .one (.lit (.int .i64 b)), .one (.lit (.int .i64 n)), c] => ∃ (U A M B V : List Arc), c = fnV fc ∧ a = U.length ∧ b = (U.length + A.length + M.length : Nat) ∧ n = A.length ∧ A.length = B.length ∧
   U.length + A.length + M.length + B.length ≤ len ∧ len ≤ U.length + A.length + M.length + B.length + V.length ∧ len ≤ 68719476736 ∧
   h r = ⟨ver, some ⟨(U ++ A ++ M ++ B ++ V).map aC, 6, true⟩⟩ ∧ K (.tup []) (upd h r ⟨ver, some ⟨(U ++ B ++ M ++ A ++ V).map aC, 6, true⟩⟩)
 | _ => False
@[congr] theorem swp_Gc {fc : Nat} {d : Option Nat} {l l' : List AV} {h h' : Nat → HB} {K : AV → (Nat → HB) → Prop} (e1 : l = l') (e2 : h = h') : swp_G fc d l h K = swp_G fc d l' h' K := by subst e1; subst e2; rfl
def rot_G (fc : Nat) (d : Option Nat) (args : List AV) (h : Nat → HB) (K : AV → (Nat → HB) → Prop) : Prop :=
 match args with
 | [.one (.own r ver 6 0 len), .one (.lit (.int .i64 a)), .one (.lit (.int .i64 m)), .one (.lit (.int .i64 b)), c] => ∃ (U A B V : List Arc), c = fnV fc ∧ a = U.length ∧ m = (U.length + A.length : Nat) ∧ b = (U.length + A.length + B.length : Nat) ∧ A ≠ [] ∧ B ≠ [] ∧
   U.length + A.length + B.length ≤ len ∧ len ≤ U.length + A.length + B.length + V.length ∧ len ≤ 68719476736 ∧
   h r = ⟨ver, some ⟨(U ++ A ++ B ++ V).map aC, 6, true⟩⟩ ∧ K (.tup []) (upd h r ⟨ver, some ⟨(U ++ B ++ A ++ V).map aC, 6, true⟩⟩)
 | _ => False
@[congr] theorem rot_Gc {fc : Nat} {d : Option Nat} {l l' : List AV} {h h' : Nat → HB} {K : AV → (Nat → HB) → Prop} (e1 : l = l') (e2 : h = h') : rot_G fc d l h K = rot_G fc d l' h' K := by subst e1; subst e2; rfl
def mrg_G (fc N : Nat) (d : Option Nat) (args : List AV) (h : Nat → HB) (K : AV → (Nat → HB) → Prop) : Prop :=
 match args with
 | [.one (.own r ver 6 0 len), .one (.lit (.int .i64 a)), .one (.lit (.int .i64 m)), .one (.lit (.int .i64 b)), c] => ∃ (U A B V : List Arc), c = fnV fc ∧ a = U.length ∧ m = (U.length + A.length : Nat) ∧ b = (U.length + A.length + B.length : Nat) ∧ A ≠ [] ∧ B ≠ [] ∧ A.length + B.length ≤ N ∧
   U.length + A.length + B.length ≤ len ∧ len ≤ U.length + A.length + B.length + V.length ∧ len ≤ 1073741824 ∧ okAs 4294967296 A ∧ okAs 4294967296 B ∧ SortA A ∧ SortA B ∧
   h r = ⟨ver, some ⟨(U ++ A ++ B ++ V).map aC, 6, true⟩⟩ ∧ ∀ C : List Arc, (A ++ B).Perm C → SortA C → K (.tup []) (upd h r ⟨ver, some ⟨(U ++ C ++ V).map aC, 6, true⟩⟩)
 | _ => False
@[congr] theorem mrg_Gc {fc N : Nat} {d : Option Nat} {l l' : List AV} {h h' : Nat → HB} {K : AV → (Nat → HB) → Prop} (e1 : l = l') (e2 : h = h') : mrg_G fc N d l h K = mrg_G fc N d l' h' K := by subst e1; subst e2; rfl
def ac_slices_swapRangeCmpFunc_g : AC := (.seq (.ops false [.m 10 (.i 0)])
 (.fg [0, 1, 2, 3, 10] (.block 0 (.loop (.seq (.seq (.ops false [.m 11 (.t 10), .m 12 (.t 3), .u 13 (.bin .lss (.t 11) (.t 12))])
 (.fg [0, 1, 2, 3, 10, 13] (.cond (.t 13) .skip (.exit 0))))
 (.fg [0, 1, 2, 3, 10] (.seq (.block 1 (.ops true [.m 16 (.t 0), .m 17 (.t 1), .m 18 (.t 10), .u 19 (.bin .add (.t 17) (.t 18)), .m 20 (.t 0), .m 21 (.t 2), .m 22 (.t 10), .u 23 (.bin .add (.t 21) (.t 22)), .m 24 (.t 0), .m 25 (.t 2), .m 26 (.t 10), .u 27 (.bin .add (.t 25) (.t 26)), .u 28 (.idx 6 (.t 24) (.t 27)), .u 29 (.ld none 6 true (.t 28)), .m 30 (.t 0), .m 31 (.t 1), .m 32 (.t 10), .u 33 (.bin .add (.t 31) (.t 32)), .u 34 (.idx 6 (.t 30) (.t 33)), .u 35 (.ld none 6 true (.t 34)), .u 36 (.idx 6 (.t 16) (.t 19)), .n (.st none 6 (.t 36) (.t 29)), .u 37 (.idx 6 (.t 20) (.t 23)), .n (.st none 6 (.t 37) (.t 35))]))
 (.fg [0, 1, 2, 3, 10] (.ops false [.m 14 (.t 10), .u 15 (.bin .add (.t 14) (.i 1)), .m 10 (.t 15)])))))))))
def ac_slices_rotateCmpFunc_g (f0 : Nat) : AC := (.seq (.ops false [.m 12 (.t 2), .m 13 (.t 1), .u 14 (.bin .sub (.t 12) (.t 13)), .m 10 (.t 14)])
 (.fg [0, 2, 3, 4, 10] (.seq (.ops false [.m 15 (.t 3), .m 16 (.t 2), .u 17 (.bin .sub (.t 15) (.t 16)), .m 11 (.t 17)])
 (.fg [0, 2, 4, 10, 11] (.seq (.block 0 (.loop (.seq (.seq (.ops false [.m 18 (.t 10), .m 19 (.t 11), .u 20 (.bin .neq (.t 18) (.t 19))])
 (.fg [0, 2, 4, 10, 11, 20] (.cond (.t 20) .skip (.exit 0))))
 (.fg [0, 2, 4, 10, 11] (.block 1 (.seq (.ops false [.m 21 (.t 10), .m 22 (.t 11), .u 23 (.bin .gtr (.t 21) (.t 22))])
 (.fg [0, 2, 4, 10, 11, 23] (.cond (.t 23) (.seq (.ops false [.m 24 (.t 0), .m 25 (.t 2), .m 26 (.t 10), .u 27 (.bin .sub (.t 25) (.t 26)), .m 28 (.t 2), .m 29 (.t 11), .m 30 (.t 4), .u 31 (.call f0 [(.t 24), (.t 27), (.t 28), (.t 29), (.t 30)])])
 (.fg [0, 2, 4, 10, 11] (.ops false [.m 32 (.t 10), .m 33 (.t 11), .u 34 (.bin .sub (.t 32) (.t 33)), .m 10 (.t 34)]))) (.seq (.ops false [.m 35 (.t 0), .m 36 (.t 2), .m 37 (.t 10), .u 38 (.bin .sub (.t 36) (.t 37)), .m 39 (.t 2), .m 40 (.t 11), .u 41 (.bin .add (.t 39) (.t 40)), .m 42 (.t 10), .u 43 (.bin .sub (.t 41) (.t 42)), .m 44 (.t 10), .m 45 (.t 4), .u 46 (.call f0 [(.t 35), (.t 38), (.t 43), (.t 44), (.t 45)])])
 (.fg [0, 2, 4, 10, 11] (.ops false [.m 47 (.t 11), .m 48 (.t 10), .u 49 (.bin .sub (.t 47) (.t 48)), .m 11 (.t 49)])))))))))))
 (.fg [0, 2, 4, 10] (.ops false [.m 50 (.t 0), .m 51 (.t 2), .m 52 (.t 10), .u 53 (.bin .sub (.t 51) (.t 52)), .m 54 (.t 2), .m 55 (.t 10), .m 56 (.t 4), .u 57 (.call f0 [(.t 50), (.t 53), (.t 54), (.t 55), (.t 56)])])))))))
def ac_slices_symMergeCmpFunc_g (f0 f1 : Nat) : AC := (.seq (.seq (.ops false [.m 25 (.t 2), .m 26 (.t 1), .u 27 (.bin .sub (.t 25) (.t 26)), .u 28 (.bin .eql (.t 27) (.i 1))])
 (.fg [0, 1, 2, 3, 4, 28] (.cond (.t 28) (.seq (.ops false [.m 29 (.t 2), .m 10 (.t 29)])
 (.fg [0, 1, 3, 4, 10] (.seq (.ops false [.m 30 (.t 3), .m 11 (.t 30)])
 (.fg [0, 1, 4, 10, 11] (.seq (.block 0 (.loop (.seq (.seq (.ops false [.m 31 (.t 10), .m 32 (.t 11), .u 33 (.bin .lss (.t 31) (.t 32))])
 (.fg [0, 1, 4, 10, 11, 33] (.cond (.t 33) .skip (.exit 0))))
 (.fg [0, 1, 4, 10, 11] (.block 1 (.seq (.ops false [.m 34 (.t 10), .m 35 (.t 11), .u 36 (.bin .add (.t 34) (.t 35)), .u 37 (.conv .u64 (.t 36)), .u 38 (.bin .shr (.t 37) (.c (.one (.lit (.int .u64 1))))), .u 39 (.conv .i64 (.t 38)), .m 12 (.t 39)])
 (.fg [0, 1, 4, 10, 11, 12] (.seq (.ops true [.m 40 (.t 4), .m 41 (.t 0), .m 42 (.t 12), .u 43 (.idx 6 (.t 41) (.t 42)), .u 44 (.ld none 6 true (.t 43)), .m 45 (.t 0), .m 46 (.t 1), .u 47 (.idx 6 (.t 45) (.t 46)), .u 48 (.ld none 6 true (.t 47)), .u 49 (.callv (.t 40) [(.t 44), (.t 48)]), .u 50 (.bin .lss (.t 49) (.i 0))])
 (.fg [0, 1, 4, 10, 11, 12, 50] (.cond (.t 50) (.ops false [.m 51 (.t 12), .u 52 (.bin .add (.t 51) (.i 1)), .m 10 (.t 52)]) (.ops false [.m 53 (.t 12), .m 11 (.t 53)])))))))))))
 (.fg [0, 1, 10] (.seq (.seq (.ops false [.m 54 (.t 1), .m 13 (.t 54)])
 (.fg [0, 10, 13] (.block 2 (.loop (.seq (.seq (.ops false [.m 55 (.t 13), .m 56 (.t 10), .u 57 (.bin .sub (.t 56) (.i 1)), .u 58 (.bin .lss (.t 55) (.t 57))])
 (.fg [0, 10, 13, 58] (.cond (.t 58) .skip (.exit 2))))
 (.fg [0, 10, 13] (.seq (.block 3 (.ops true [.m 61 (.t 0), .m 62 (.t 13), .m 63 (.t 0), .m 64 (.t 13), .u 65 (.bin .add (.t 64) (.i 1)), .m 66 (.t 0), .m 67 (.t 13), .u 68 (.bin .add (.t 67) (.i 1)), .u 69 (.idx 6 (.t 66) (.t 68)), .u 70 (.ld none 6 true (.t 69)), .m 71 (.t 0), .m 72 (.t 13), .u 73 (.idx 6 (.t 71) (.t 72)), .u 74 (.ld none 6 true (.t 73)), .u 75 (.idx 6 (.t 61) (.t 62)), .n (.st none 6 (.t 75) (.t 70)), .u 76 (.idx 6 (.t 63) (.t 65)), .n (.st none 6 (.t 76) (.t 74))]))
 (.fg [0, 10, 13] (.ops false [.m 59 (.t 13), .u 60 (.bin .add (.t 59) (.i 1)), .m 13 (.t 60)])))))))))
 .ret))))))) .skip)))
 (.fg [0, 1, 2, 3, 4] (.seq (.seq (.ops false [.m 77 (.t 3), .m 78 (.t 2), .u 79 (.bin .sub (.t 77) (.t 78)), .u 80 (.bin .eql (.t 79) (.i 1))])
 (.fg [0, 1, 2, 3, 4, 80] (.cond (.t 80) (.seq (.ops false [.m 81 (.t 1), .m 14 (.t 81)])
 (.fg [0, 2, 4, 14] (.seq (.ops false [.m 82 (.t 2), .m 15 (.t 82)])
 (.fg [0, 2, 4, 14, 15] (.seq (.block 4 (.loop (.seq (.seq (.ops false [.m 83 (.t 14), .m 84 (.t 15), .u 85 (.bin .lss (.t 83) (.t 84))])
 (.fg [0, 2, 4, 14, 15, 85] (.cond (.t 85) .skip (.exit 4))))
 (.fg [0, 2, 4, 14, 15] (.block 5 (.seq (.ops false [.m 86 (.t 14), .m 87 (.t 15), .u 88 (.bin .add (.t 86) (.t 87)), .u 89 (.conv .u64 (.t 88)), .u 90 (.bin .shr (.t 89) (.c (.one (.lit (.int .u64 1))))), .u 91 (.conv .i64 (.t 90)), .m 16 (.t 91)])
 (.fg [0, 2, 4, 14, 15, 16] (.seq (.ops true [.m 92 (.t 4), .m 93 (.t 0), .m 94 (.t 2), .u 95 (.idx 6 (.t 93) (.t 94)), .u 96 (.ld none 6 true (.t 95)), .m 97 (.t 0), .m 98 (.t 16), .u 99 (.idx 6 (.t 97) (.t 98)), .u 100 (.ld none 6 true (.t 99)), .u 101 (.callv (.t 92) [(.t 96), (.t 100)]), .u 102 (.bin .lss (.t 101) (.i 0)), .u 103 (.un .not (.t 102))])
 (.fg [0, 2, 4, 14, 15, 16, 103] (.cond (.t 103) (.ops false [.m 104 (.t 16), .u 105 (.bin .add (.t 104) (.i 1)), .m 14 (.t 105)]) (.ops false [.m 106 (.t 16), .m 15 (.t 106)])))))))))))
 (.fg [0, 2, 14] (.seq (.seq (.ops false [.m 107 (.t 2), .m 17 (.t 107)])
 (.fg [0, 14, 17] (.block 6 (.loop (.seq (.seq (.ops false [.m 108 (.t 17), .m 109 (.t 14), .u 110 (.bin .gtr (.t 108) (.t 109))])
 (.fg [0, 14, 17, 110] (.cond (.t 110) .skip (.exit 6))))
 (.fg [0, 14, 17] (.seq (.block 7 (.ops true [.m 113 (.t 0), .m 114 (.t 17), .m 115 (.t 0), .m 116 (.t 17), .u 117 (.bin .sub (.t 116) (.i 1)), .m 118 (.t 0), .m 119 (.t 17), .u 120 (.bin .sub (.t 119) (.i 1)), .u 121 (.idx 6 (.t 118) (.t 120)), .u 122 (.ld none 6 true (.t 121)), .m 123 (.t 0), .m 124 (.t 17), .u 125 (.idx 6 (.t 123) (.t 124)), .u 126 (.ld none 6 true (.t 125)), .u 127 (.idx 6 (.t 113) (.t 114)), .n (.st none 6 (.t 127) (.t 122)), .u 128 (.idx 6 (.t 115) (.t 117)), .n (.st none 6 (.t 128) (.t 126))]))
 (.fg [0, 14, 17] (.ops false [.m 111 (.t 17), .u 112 (.bin .sub (.t 111) (.i 1)), .m 17 (.t 112)])))))))))
 .ret))))))) .skip)))
 (.fg [0, 1, 2, 3, 4] (.seq (.ops false [.m 129 (.t 1), .m 130 (.t 3), .u 131 (.bin .add (.t 129) (.t 130)), .u 132 (.conv .u64 (.t 131)), .u 133 (.bin .shr (.t 132) (.c (.one (.lit (.int .u64 1))))), .u 134 (.conv .i64 (.t 133)), .m 18 (.t 134)])
 (.fg [0, 1, 2, 3, 4, 18] (.seq (.ops false [.m 135 (.t 18), .m 136 (.t 2), .u 137 (.bin .add (.t 135) (.t 136)), .m 19 (.t 137)])
 (.fg [0, 1, 2, 3, 4, 18, 19] (.seq (.ops false [.m 20 (.i 0), .m 21 (.i 0)])
 (.fg [0, 1, 2, 3, 4, 18, 19] (.seq (.seq (.ops false [.m 138 (.t 2), .m 139 (.t 18), .u 140 (.bin .gtr (.t 138) (.t 139))])
 (.fg [0, 1, 2, 3, 4, 18, 19, 140] (.cond (.t 140) (.seq (.ops false [.m 141 (.t 19), .m 142 (.t 3), .u 143 (.bin .sub (.t 141) (.t 142)), .m 20 (.t 143)])
 (.fg [0, 1, 2, 3, 4, 18, 19, 20] (.ops false [.m 144 (.t 18), .m 21 (.t 144)]))) (.seq (.ops false [.m 145 (.t 1), .m 20 (.t 145)])
 (.fg [0, 1, 2, 3, 4, 18, 19, 20] (.ops false [.m 146 (.t 2), .m 21 (.t 146)]))))))
 (.fg [0, 1, 2, 3, 4, 18, 19, 20, 21] (.seq (.ops false [.m 147 (.t 19), .u 148 (.bin .sub (.t 147) (.i 1)), .m 22 (.t 148)])
 (.fg [0, 1, 2, 3, 4, 18, 19, 20, 21, 22] (.seq (.block 8 (.loop (.seq (.seq (.ops false [.m 149 (.t 20), .m 150 (.t 21), .u 151 (.bin .lss (.t 149) (.t 150))])
 (.fg [0, 1, 2, 3, 4, 18, 19, 20, 21, 22, 151] (.cond (.t 151) .skip (.exit 8))))
 (.fg [0, 1, 2, 3, 4, 18, 19, 20, 21, 22] (.block 9 (.seq (.ops false [.m 152 (.t 20), .m 153 (.t 21), .u 154 (.bin .add (.t 152) (.t 153)), .u 155 (.conv .u64 (.t 154)), .u 156 (.bin .shr (.t 155) (.c (.one (.lit (.int .u64 1))))), .u 157 (.conv .i64 (.t 156)), .m 23 (.t 157)])
 (.fg [0, 1, 2, 3, 4, 18, 19, 20, 21, 22, 23] (.seq (.ops true [.m 158 (.t 4), .m 159 (.t 0), .m 160 (.t 22), .m 161 (.t 23), .u 162 (.bin .sub (.t 160) (.t 161)), .u 163 (.idx 6 (.t 159) (.t 162)), .u 164 (.ld none 6 true (.t 163)), .m 165 (.t 0), .m 166 (.t 23), .u 167 (.idx 6 (.t 165) (.t 166)), .u 168 (.ld none 6 true (.t 167)), .u 169 (.callv (.t 158) [(.t 164), (.t 168)]), .u 170 (.bin .lss (.t 169) (.i 0)), .u 171 (.un .not (.t 170))])
 (.fg [0, 1, 2, 3, 4, 18, 19, 20, 21, 22, 23, 171] (.cond (.t 171) (.ops false [.m 172 (.t 23), .u 173 (.bin .add (.t 172) (.i 1)), .m 20 (.t 173)]) (.ops false [.m 174 (.t 23), .m 21 (.t 174)])))))))))))
 (.fg [0, 1, 2, 3, 4, 18, 19, 20] (.seq (.ops false [.m 175 (.t 19), .m 176 (.t 20), .u 177 (.bin .sub (.t 175) (.t 176)), .m 24 (.t 177)])
 (.fg [0, 1, 2, 3, 4, 18, 20, 24] (.seq (.seq (.ops false [.m 178 (.t 20), .m 179 (.t 2), .u 180 (.bin .lss (.t 178) (.t 179)), .m 181 (.t 180), .w 182 181 true (.mv (.t 2)), .w 183 181 true (.mv (.t 24)), .w 184 181 true (.bin .lss (.t 182) (.t 183)), .u 185 (.pick (.t 181) (.t 184) .fa)])
 (.fg [0, 1, 2, 3, 4, 18, 20, 24, 185] (.cond (.t 185) (.ops false [.m 186 (.t 0), .m 187 (.t 20), .m 188 (.t 2), .m 189 (.t 24), .m 190 (.t 4), .u 191 (.call f0 [(.t 186), (.t 187), (.t 188), (.t 189), (.t 190)])]) .skip)))
 (.fg [0, 1, 3, 4, 18, 20, 24] (.seq (.seq (.ops false [.m 192 (.t 1), .m 193 (.t 20), .u 194 (.bin .lss (.t 192) (.t 193)), .m 195 (.t 194), .w 196 195 true (.mv (.t 20)), .w 197 195 true (.mv (.t 18)), .w 198 195 true (.bin .lss (.t 196) (.t 197)), .u 199 (.pick (.t 195) (.t 198) .fa)])
 (.fg [0, 1, 3, 4, 18, 20, 24, 199] (.cond (.t 199) (.ops false [.m 200 (.t 0), .m 201 (.t 1), .m 202 (.t 20), .m 203 (.t 18), .m 204 (.t 4), .u 205 (.call f1 [(.t 200), (.t 201), (.t 202), (.t 203), (.t 204)])]) .skip)))
 (.fg [0, 3, 4, 18, 24] (.seq (.ops false [.m 206 (.t 18), .m 207 (.t 24), .u 208 (.bin .lss (.t 206) (.t 207)), .m 209 (.t 208), .w 210 209 true (.mv (.t 24)), .w 211 209 true (.mv (.t 3)), .w 212 209 true (.bin .lss (.t 210) (.t 211)), .u 213 (.pick (.t 209) (.t 212) .fa)])
 (.fg [0, 3, 4, 18, 24, 213] (.cond (.t 213) (.ops false [.m 214 (.t 0), .m 215 (.t 18), .m 216 (.t 24), .m 217 (.t 3), .m 218 (.t 4), .u 219 (.call f1 [(.t 214), (.t 215), (.t 216), (.t 217), (.t 218)])]) .skip)))))))))))))))))))))))))
theorem swp_sound (hΓ : Holds P Γ) {f fc : Nat} (hc : check P f = some (38, ac_slices_swapRangeCmpFunc_g.strip, [])) : Sound P f (.own (swp_G fc)) := by
 refine sound_own hc hΓ (fun d args h K hG => ?_)
 unfold swp_G at hG
 split at hG
 case h_2 => exact hG.elim
 rename_i r ver len x1 x2 x3 c
 obtain ⟨U, A, M, B, V, rfl, hx1, hx2, hx3, hAB, hlen, hlen2, hroom, hr, hK⟩ := hG
 obtain ⟨D, hD⟩ : ∃ D, D = U ++ A ++ M ++ B ++ V := ⟨_, rfl⟩
 rw [← hD] at hr
 have hDl : D.length = U.length + A.length + M.length + B.length + V.length := by rw [hD]; simp [Nat.add_assoc]
 refine ⟨[r], [⟨D.map aC, 6, true⟩], [.one (.own 1048576 ver 6 0 len), .one (.lit (.int .i64 x1)), .one (.lit (.int .i64 x2)), .one (.lit (.int .i64 x3)), fnV fc], by simp, rfl, ?_, ?_, ?_, fun hfi => ⟨by simp, ?_⟩⟩
 ·intro i r' b h1 h2
  cases i with
  | zero => simp only [List.getElem?_cons_zero, Option.some.injEq] at h1 h2; subst h1 h2; exact ⟨by rw [hr], rfl, of_eq_true (clean_as _)⟩
  | succ i => simp at h1
 ·simp [exA, exC, exB, nameOf, pinA, fnV]
 ·intro a ha
  simp only [List.mem_cons, List.not_mem_nil, or_false] at ha
  rcases ha with rfl | rfl | rfl | rfl | rfl
  ·simp [pasA, pasC, pasB, nameOf, pinA]
  ·exact .lit _
  ·exact .lit _
  ·exact .lit _
  ·exact .lit _
 simp only [go_sem, ↓reduceIte, Nat.reduceEqDiff, Nat.reduceAdd, Nat.reduceLT, Nat.reduceLeDiff, Int.reduceToNat, Nat.reducePow, Nat.reduceMul, reduceCtorEq, ac_slices_swapRangeCmpFunc_g, hr, fnV]
 refine wpA_loop (fun p : List Arc × List Arc × List Arc × List Arc => ⟨mkV [(0, .one (.own 1048576 ver 6 0 len)), (1, .one (.lit (.int .i64 x1))), (2, .one (.lit (.int .i64 x2))), (3, .one (.lit (.int .i64 x3))), (10, .one (.lit (.int .i64 p.1.length)))], mkH [(1048576, ⟨ver, some ⟨(U ++ (p.2.2.1 ++ p.2.1) ++ M ++ (p.1 ++ p.2.2.2) ++ V).map aC, 6, true⟩⟩)]⟩)
  (fun p => A = p.1 ++ p.2.1 ∧ B = p.2.2.1 ++ p.2.2.2 ∧ p.1.length = p.2.2.1.length) (fun p => p.2.1.length) ([], A, [], B) ?_ ?_ ?_
 ·exact weak_lit (by simp [okS, okV, okC, okL, okH, okB, okE, mkV_cons, mkV_nil, mkH_cons, mkH_nil, wsA, ws]) (okH_a (by simp [hD]))
 ·exact ⟨rfl, rfl, rfl⟩
 ·rintro ⟨A1, A2, B1, B2⟩ ⟨hA, hB, h1⟩
  simp only at hA hB h1
  have lA := congrArg List.length hA
  have lB := congrArg List.length hB
  simp only [List.length_append] at lA lB
  rcases A2 with _ | ⟨x, A2⟩
  ·have hlt : ¬ ((A1.length : Int) < x3) := by simp only [List.length_nil] at lA; omega
   simp only [go_sem, ↓reduceIte, Nat.reduceEqDiff, Nat.reduceAdd, Nat.reduceLT, Nat.reduceLeDiff, Int.reduceToNat, Nat.reducePow, Nat.reduceMul, reduceCtorEq, hr, hlt]
   rcases B2 with _ | ⟨y, B2⟩
   ·simp only [List.append_nil] at hA hB ⊢
    subst hA hB
    exact hK
   ·simp only [List.length_nil, List.length_cons] at *; omega
  ·rcases B2 with _ | ⟨y, B2⟩
   ·simp only [List.length_nil, List.length_cons] at *; omega
   ·simp only [List.length_cons] at lA lB
    have hlt : (A1.length : Int) < x3 := by omega
    obtain ⟨E, hE⟩ : ∃ E, E = U ++ (B1 ++ x :: A2) ++ M ++ (A1 ++ y :: B2) ++ V := ⟨_, rfl⟩
    have hEl : E.length = D.length := by rw [hE, hDl]; simp only [List.length_append, List.length_cons]; omega
    have e1 : E = (U ++ B1) ++ x :: (A2 ++ M ++ (A1 ++ y :: B2) ++ V) := by rw [hE]; simp
    have e2 : E = (U ++ (B1 ++ x :: A2) ++ M ++ A1) ++ y :: (B2 ++ V) := by rw [hE]; simp
    obtain ⟨i1, hi1⟩ : ∃ i1 : Nat, i1 = U.length + A1.length := ⟨_, rfl⟩
    obtain ⟨i2, hi2⟩ : ∃ i2 : Nat, i2 = U.length + A.length + M.length + A1.length := ⟨_, rfl⟩
    have n1 : x1 + (A1.length : Int) = (i1 : Int) := by omega
    have n2 : x2 + (A1.length : Int) = (i2 : Int) := by omega
    have g1 : E.getD i1 a0 = x := by rw [e1]; exact getM _ _ _ _ (by simp; omega)
    have g2 : E.getD i2 a0 = y := by rw [e2]; exact getM _ _ _ _ (by simp; omega)
    have b1 : i1 < len := by omega
    have b2 : i2 < len := by omega
    have c1 : i1 < E.length := by omega
    have c2 : i2 < E.length := by omega
    have s1 : (E.set i1 y).set i2 x = U ++ ((B1 ++ [y]) ++ A2) ++ M ++ ((A1 ++ [x]) ++ B2) ++ V := by
     have : E.set i1 y = (U ++ B1) ++ y :: (A2 ++ M ++ (A1 ++ y :: B2) ++ V) := by rw [e1]; exact setM _ _ _ _ (by simp; omega)
     rw [this]
     have : (U ++ B1) ++ y :: (A2 ++ M ++ (A1 ++ y :: B2) ++ V) = (U ++ (B1 ++ y :: A2) ++ M ++ A1) ++ y :: (B2 ++ V) := by simp
     rw [this, setM _ _ _ _ (by simp; omega)]
     simp
    simp only [← hE]
    simp only [go_sem, ↓reduceIte, Nat.reduceEqDiff, Nat.reduceAdd, Nat.reduceLT, Nat.reduceLeDiff, Int.reduceToNat, Nat.reducePow, Nat.reduceMul, reduceCtorEq, hr, hlt, n1, n2, g1, g2, b1, b2, c1, c2, s1, List.length_set]
    refine ⟨by omega, by omega, by omega, by omega, by omega, (A1 ++ [x], A2, B1 ++ [y], B2), weak_lit (by simp [okS, okV, okC, okL, okH, okB, okE, mkV_cons, mkV_nil, mkH_cons, mkH_nil, wsA, ws]) (okH_a rfl), ⟨by rw [hA]; simp, by rw [hB]; simp, by simp [h1]⟩, by simp⟩
theorem rot_sound (hΓ : Holds P Γ) {f fs fc : Nat} (hs : Γ fs = .own (swp_G fc)) (hc : check P f = some (58, (ac_slices_rotateCmpFunc_g fs).strip, [])) : Sound P f (.own (rot_G fc)) := by
 refine sound_own hc hΓ (fun d args h K hG => ?_)
 unfold rot_G at hG
 split at hG
 case h_2 => exact hG.elim
 rename_i r ver len x1 x2 x3 c
 obtain ⟨U, A, B, V, rfl, hx1, hx2, hx3, hA0, hB0, hlen, hlen2, hroom, hr, hK⟩ := hG
 obtain ⟨D, hD⟩ : ∃ D, D = U ++ A ++ B ++ V := ⟨_, rfl⟩
 rw [← hD] at hr
 have hDl : D.length = U.length + A.length + B.length + V.length := by rw [hD]; simp [Nat.add_assoc]
 have hAp := List.length_pos_iff.2 hA0
 have hBp := List.length_pos_iff.2 hB0
 refine ⟨[r], [⟨D.map aC, 6, true⟩], [.one (.own 1048576 ver 6 0 len), .one (.lit (.int .i64 x1)), .one (.lit (.int .i64 x2)), .one (.lit (.int .i64 x3)), fnV fc], by simp, rfl, ?_, ?_, ?_, fun hfi => ⟨by simp, ?_⟩⟩
 ·intro i r' b h1 h2
  cases i with
  | zero => simp only [List.getElem?_cons_zero, Option.some.injEq] at h1 h2; subst h1 h2; exact ⟨by rw [hr], rfl, of_eq_true (clean_as _)⟩
  | succ i => simp at h1
 ·simp [exA, exC, exB, nameOf, pinA, fnV]
 ·intro a ha
  simp only [List.mem_cons, List.not_mem_nil, or_false] at ha
  rcases ha with rfl | rfl | rfl | rfl | rfl
  ·simp [pasA, pasC, pasB, nameOf, pinA]
  ·exact .lit _
  ·exact .lit _
  ·exact .lit _
  ·exact .lit _
 have n1 : x2 - x1 = (A.length : Int) := by omega
 have n2 : x3 - x2 = (B.length : Int) := by omega
 simp only [go_sem, ↓reduceIte, Nat.reduceEqDiff, Nat.reduceAdd, Nat.reduceLT, Nat.reduceLeDiff, Int.reduceToNat, Nat.reducePow, Nat.reduceMul, reduceCtorEq, ac_slices_rotateCmpFunc_g, hr, fnV, hs, n1, n2]
 refine ⟨by omega, by omega, ?_⟩
 refine wpA_loop (fun p : List Arc × List Arc × List Arc × List Arc => ⟨mkV [(0, .one (.own 1048576 ver 6 0 len)), (2, .one (.lit (.int .i64 x2))), (4, .one (.lit (.func (.func fc) ⟨[]⟩ ⟨[]⟩))), (10, .one (.lit (.int .i64 p.2.1.length))), (11, .one (.lit (.int .i64 p.2.2.1.length)))], mkH [(1048576, ⟨ver, some ⟨(p.1 ++ p.2.1 ++ p.2.2.1 ++ p.2.2.2).map aC, 6, true⟩⟩)]⟩)
  (fun p => p.1 ++ p.2.2.1 ++ p.2.1 ++ p.2.2.2 = U ++ B ++ A ++ V ∧ x2 = (p.1.length + p.2.1.length : Nat) ∧ p.2.1 ≠ [] ∧ p.2.2.1 ≠ [] ∧ (p.2.1.length + p.2.2.1.length ≤ A.length + B.length) ∧ x2 + p.2.2.1.length ≤ x3) (fun p => p.2.1.length + p.2.2.1.length) (U, A, B, V) ?_ ?_ ?_
 ·exact weak_lit (by simp [okS, okV, okC, okL, okH, okB, okE, mkV_cons, mkV_nil, mkH_cons, mkH_nil, wsA, ws]) (okH_a (by simp [hD]))
 ·exact ⟨rfl, by simp only; omega, hA0, hB0, Nat.le_refl _, by simp only; omega⟩
 ·rintro ⟨U', A', B', V'⟩ ⟨hT, hx2', hA1, hB1, hsz, hx3'⟩
  simp only at hT hx2' hA1 hB1 hsz hx3'
  have hTl := congrArg List.length hT
  simp only [List.length_append] at hTl
  have hAp' := List.length_pos_iff.2 hA1
  have hBp' := List.length_pos_iff.2 hB1
  have n1 : x2 - (A'.length : Int) = (U'.length : Int) := by omega
  by_cases heq : A'.length = B'.length
  ·have heq' : (A'.length : Int) = (B'.length : Int) := by omega
   simp only [go_sem, ↓reduceIte, Nat.reduceEqDiff, Nat.reduceAdd, Nat.reduceLT, Nat.reduceLeDiff, Int.reduceToNat, Nat.reducePow, Nat.reduceMul, reduceCtorEq, hr, hs, fnV, n1, ← heq', ne_eq, not_true_eq_false]
   refine ⟨by omega, ?_⟩
   simp only [swp_G]
   refine ⟨U', A', [], B', V', rfl, rfl, by simp; omega, rfl, heq, by simp; omega, by simp; omega, by omega, by simp [mkH_cons], ?_⟩
   simp only [go_sem, ↓reduceIte, Nat.reduceEqDiff, Nat.reduceAdd, Nat.reduceLT, Nat.reduceLeDiff, Int.reduceToNat, Nat.reducePow, Nat.reduceMul, reduceCtorEq, hr]
   have : U' ++ B' ++ [] ++ A' ++ V' = U ++ B ++ A ++ V := by rw [← hT]; simp
   rw [List.append_nil] at this
   rw [this]
   exact hK
  ·have heq' : ¬ (A'.length : Int) = (B'.length : Int) := by omega
   by_cases hgt : B'.length < A'.length
   ·have hgt' : (B'.length : Int) < (A'.length : Int) := by omega
    simp only [go_sem, ↓reduceIte, Nat.reduceEqDiff, Nat.reduceAdd, Nat.reduceLT, Nat.reduceLeDiff, Int.reduceToNat, Nat.reducePow, Nat.reduceMul, reduceCtorEq, hr, hs, fnV, n1, heq', hgt', ne_eq]
    obtain ⟨A1, A2, rfl, hA1l⟩ : ∃ A1 A2, A' = A1 ++ A2 ∧ A1.length = B'.length := ⟨A'.take B'.length, A'.drop B'.length, (List.take_append_drop _ _).symm, by rw [List.length_take]; omega⟩
    have hA12 : (A1 ++ A2).length = A1.length + A2.length := List.length_append
    have n3 : ((A1 ++ A2).length : Int) - (B'.length : Int) = (A2.length : Int) := by omega
    refine ⟨by omega, ?_⟩
    simp only [swp_G]
    refine ⟨U', A1, A2, B', V', rfl, rfl, by omega, by omega, hA1l, by omega, by omega, by omega, by simp [mkH_cons], ?_⟩
    rw [n3]
    simp only [go_sem, ↓reduceIte, Nat.reduceEqDiff, Nat.reduceAdd, Nat.reduceLT, Nat.reduceLeDiff, Int.reduceToNat, Nat.reducePow, Nat.reduceMul, reduceCtorEq, hr]
    have z1 : A2.length ≠ 0 := by omega
    have z2 : A1.length ≠ 0 := by omega
    refine ⟨by omega, (U' ++ B', A2, A1, V'), weak_lit (by simp [okS, okV, okC, okL, okH, okB, okE, mkV_cons, mkV_nil, mkH_cons, mkH_nil, wsA, ws]; omega) (okH_a rfl), ⟨by simp only; rw [← hT]; simp, by simp only [List.length_append]; omega, ?_, ?_, by simp only; omega, by simp only; omega⟩, by simp only; omega⟩
    ·exact fun h => z1 (List.length_eq_zero_iff.2 h)
    ·exact fun h => z2 (List.length_eq_zero_iff.2 h)
   ·have hgt' : ¬ (B'.length : Int) < (A'.length : Int) := by omega
    simp only [go_sem, ↓reduceIte, Nat.reduceEqDiff, Nat.reduceAdd, Nat.reduceLT, Nat.reduceLeDiff, Int.reduceToNat, Nat.reducePow, Nat.reduceMul, reduceCtorEq, hr, hs, fnV, n1, heq', hgt', ne_eq]
    obtain ⟨B1, B2, rfl, hB2l⟩ : ∃ B1 B2, B' = B1 ++ B2 ∧ B2.length = A'.length := ⟨B'.take (B'.length - A'.length), B'.drop (B'.length - A'.length), (List.take_append_drop _ _).symm, by rw [List.length_drop]; omega⟩
    have hB12 : (B1 ++ B2).length = B1.length + B2.length := List.length_append
    have n3 : ((B1 ++ B2).length : Int) - (A'.length : Int) = (B1.length : Int) := by omega
    refine ⟨by omega, by omega, by omega, ?_⟩
    simp only [swp_G]
    refine ⟨U', A', B1, B2, V', rfl, rfl, by omega, by omega, by omega, by omega, by omega, by omega, by simp [mkH_cons], ?_⟩
    rw [n3]
    simp only [go_sem, ↓reduceIte, Nat.reduceEqDiff, Nat.reduceAdd, Nat.reduceLT, Nat.reduceLeDiff, Int.reduceToNat, Nat.reducePow, Nat.reduceMul, reduceCtorEq, hr]
    have z1 : B1.length ≠ 0 := by omega
    have z2 : B2.length ≠ 0 := by omega
    refine ⟨by omega, (U', B2, B1, A' ++ V'), weak_lit (by simp [okS, okV, okC, okL, okH, okB, okE, mkV_cons, mkV_nil, mkH_cons, mkH_nil, wsA, ws]; omega) (okH_a (by simp)), ⟨by simp only; rw [← hT]; simp, by simp only; omega, ?_, ?_, by simp only; omega, by simp only; omega⟩, by simp only; omega⟩
    ·exact fun h => z2 (List.length_eq_zero_iff.2 h)
    ·exact fun h => z1 (List.length_eq_zero_iff.2 h)
def keyA (x : Arc) : Rat := rv x.1
theorem sortA_append {A B : List Arc} (hA : SortA A) (hB : SortA B) (h : ∀ x ∈ A, ∀ y ∈ B, rv x.1 ≤ rv y.1) : SortA (A ++ B) :=
 List.pairwise_append.2 ⟨hA, hB, h⟩
theorem sortA_left {A B : List Arc} (h : SortA (A ++ B)) : SortA A := (List.pairwise_append.1 h).1
theorem sortA_right {A B : List Arc} (h : SortA (A ++ B)) : SortA B := (List.pairwise_append.1 h).2.1
theorem sortA_cross {A B : List Arc} (h : SortA (A ++ B)) : ∀ x ∈ A, ∀ y ∈ B, rv x.1 ≤ rv y.1 := (List.pairwise_append.1 h).2.2
theorem sortA_get {A : List Arc} (h : SortA A) {i j : Nat} (hi : i < A.length) (hj : j < A.length) (hij : i ≤ j) : rv (A[i]).1 ≤ rv (A[j]).1 := by
 by_cases e : i = j
 ·subst e; exact Rat.le_refl
 ·exact List.pairwise_iff_getElem.1 h i j hi hj (by omega)
theorem take_le {A : List Arc} (hA : SortA A) {s : Nat} (hs : 0 < s) (hsl : s ≤ A.length) {q : Rat} (h : rv (A.getD (s - 1) a0).1 ≤ q) : ∀ x ∈ A.take s, rv x.1 ≤ q := by
 intro x hx
 obtain ⟨i, hi, rfl⟩ := List.mem_iff_getElem.1 hx
 rw [List.length_take] at hi
 rw [List.getElem_take]
 refine Rat.le_trans (sortA_get hA (by omega) (show s - 1 < A.length by omega) (by omega)) ?_
 rw [List.getD_eq_getElem?_getD, List.getElem?_eq_getElem (by omega)] at h
 exact h
theorem drop_ge {A : List Arc} (hA : SortA A) {s : Nat} (hsl : s < A.length) {q : Rat} (h : q ≤ rv (A.getD s a0).1) : ∀ x ∈ A.drop s, q ≤ rv x.1 := by
 intro x hx
 obtain ⟨i, hi, rfl⟩ := List.mem_iff_getElem.1 hx
 rw [List.length_drop] at hi
 rw [List.getElem_drop]
 refine Rat.le_trans ?_ (sortA_get hA hsl (show s + i < A.length by omega) (by omega))
 rw [List.getD_eq_getElem?_getD, List.getElem?_eq_getElem (by omega)] at h
 exact h
theorem getL (U A V : List Arc) {k i : Nat} (h1 : k = U.length + i) (h2 : i < A.length) : (U ++ A ++ V).getD k a0 = A.getD i a0 := by
 subst h1
 simp only [List.getD_eq_getElem?_getD]
 rw [List.getElem?_append_left (by simp; omega), List.getElem?_append_right (by omega)]
 congr 2; omega
end Go.Abs
end
