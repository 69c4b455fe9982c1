/-
  Parts of the proof, merged: ChartQ, ChartH, ChartS.
-/
import Derived.Test.YtmhnmddljmllpaaGreatM5
set_option linter.unusedVariables false
set_option linter.unusedSimpArgs false
section
set_option linter.unusedVariables false
namespace Go.Num
theorem swStep_len (w : Sw) (a : Q2) : (swOut (swStep w a)).length ≤ (swOut w).length + 1 := by
 match w with
 | none => simp [swStep, swOut]
 | some (o, z) => simp only [swStep]; split <;> simp [swOut]
theorem fold_len : ∀ (l : List Q2) (w : Sw), (swOut (l.foldl swStep w)).length ≤ (swOut w).length + l.length
 | [], w => by simp
 | a :: l, w => by
  have h1 := fold_len l (swStep w a)
  have h2 := swStep_len w a
  simp only [List.foldl_cons, List.length_cons]
  omega
theorem nrm_len (l : List Q2) : (nrm l).length ≤ l.length := by
 have := fold_len (l.mergeSort fun a b => decide (a.1 ≤ b.1)) none
 simpa [nrm, sweep, swOut] using this
def In01 (l : List Q2) : Prop := ∀ a ∈ l, 0 ≤ a.1 ∧ a.2 ≤ 1
theorem in01_mem {l : List Q2} (h : In01 l) {x : Rat} (hx : memL x l) : 0 ≤ x ∧ x < 1 := by
 obtain ⟨a, ha, h1, h2⟩ := hx
 obtain ⟨h3, h4⟩ := h a ha
 exact ⟨by grind, by grind⟩
theorem in01_of {l : List Q2} (hp : Pos l) (h : ∀ x, memL x l → 0 ≤ x ∧ x < 1) : In01 l := by
 intro a ha
 have h0 := hp a ha
 refine ⟨(h a.1 ⟨a, ha, Rat.le_refl, h0⟩).1, ?_⟩
 refine Rat.not_lt.1 fun h1 => ?_
 by_cases h2 : a.1 ≤ 1
 ·have := (h 1 ⟨a, ha, h2, h1⟩).2
  exact absurd this (by decide)
 ·have h3 := (h a.1 ⟨a, ha, Rat.le_refl, h0⟩).2
  exact h2 (Rat.le_of_lt h3)
theorem nrm_in {l : List Q2} (hp : Pos l) (h : In01 l) : In01 (nrm l) := by
 obtain ⟨k1, k2, k3⟩ := nrm_ok hp
 exact in01_of k1 fun x hx => in01_mem h ((k3 x).1 hx)
theorem nrm_eq {l m : List Q2} (hp : Pos l) (hm : Pos m) (ha : Apart m) (he : ∀ x, memL x l ↔ memL x m) : nrm l = m := by
 obtain ⟨k1, k2, k3⟩ := nrm_ok hp
 exact chart_ext k1 k2 hm ha fun x => (k3 x).trans (he x)
theorem nrm_nrm {l : List Q2} (hp : Pos l) : nrm (nrm l) = nrm l := by
 obtain ⟨k1, k2, k3⟩ := nrm_ok hp
 exact nrm_eq k1 k1 k2 fun x => Iff.rfl
theorem nrm_eq_iff {l m : List Q2} (hp : Pos l) (hm : Pos m) : nrm l = nrm m ↔ ∀ x, memL x l ↔ memL x m := by
 obtain ⟨k1, k2, k3⟩ := nrm_ok hp
 obtain ⟨j1, j2, j3⟩ := nrm_ok hm
 constructor
 ·intro h x
  rw [← k3 x, h, j3 x]
 ·intro h
  exact chart_ext k1 k2 j1 j2 fun x => (k3 x).trans ((h x).trans (j3 x).symm)
theorem max_le_mark : ∀ (M : List Rat) (x : Rat), (∃ m ∈ M, m ≤ x) → ∃ m ∈ M, m ≤ x ∧ ∀ k ∈ M, k ≤ x → k ≤ m
 | [], x, h => by obtain ⟨m, hm, _⟩ := h; simp at hm
 | a :: M, x, h => by
  by_cases hM : ∃ m ∈ M, m ≤ x
  ·obtain ⟨m, hm, hx, hk⟩ := max_le_mark M x hM
   by_cases ha : a ≤ x
   ·by_cases hma : m ≤ a
    ·refine ⟨a, by simp, ha, fun k hk1 hk2 => ?_⟩
     rcases List.mem_cons.1 hk1 with rfl | hk1
     ·exact Rat.le_refl
     ·exact Rat.le_trans (hk k hk1 hk2) hma
    ·refine ⟨m, by simp [hm], hx, fun k hk1 hk2 => ?_⟩
     rcases List.mem_cons.1 hk1 with rfl | hk1
     ·exact Rat.le_of_lt (Rat.not_le.1 hma)
     ·exact hk k hk1 hk2
   ·refine ⟨m, by simp [hm], hx, fun k hk1 hk2 => ?_⟩
    rcases List.mem_cons.1 hk1 with rfl | hk1
    ·exact absurd hk2 ha
    ·exact hk k hk1 hk2
  ·obtain ⟨m, hm, hx⟩ := h
   rcases List.mem_cons.1 hm with rfl | hm
   ·refine ⟨m, by simp, hx, fun k hk1 hk2 => ?_⟩
    rcases List.mem_cons.1 hk1 with rfl | hk1
    ·exact Rat.le_refl
    ·exact absurd ⟨k, hk1, hk2⟩ hM
   ·exact absurd ⟨m, hm, hx⟩ hM
theorem mark_same {M : List Rat} {l : List Q2} {m x : Rat} (hf : ∀ a ∈ l, a.1 ∈ M) (ht : ∀ a ∈ l, a.2 ≤ x → a.2 ∈ M) (hmx : m ≤ x) (hm : ∀ k ∈ M, k ≤ x → k ≤ m) : memL m l ↔ memL x l := by
 constructor
 ·rintro ⟨a, ha, h1, h2⟩
  refine ⟨a, ha, Rat.le_trans h1 hmx, Rat.not_le.1 fun h => ?_⟩
  have := hm _ (ht a ha h) h
  grind
 ·rintro ⟨a, ha, h1, h2⟩
  exact ⟨a, ha, hm _ (hf a ha) h1, by grind⟩
theorem marks_tell {M : List Rat} {l m : List Q2} (hf : ∀ a ∈ l, a.1 ∈ M) (ht : ∀ a ∈ l, a.2 < 1 → a.2 ∈ M) (hf' : ∀ a ∈ m, a.1 ∈ M) (ht' : ∀ a ∈ m, a.2 < 1 → a.2 ∈ M)
  (hl : In01 l) (hm : In01 m) (he : ∀ k ∈ M, memL k l ↔ memL k m) (x : Rat) : memL x l ↔ memL x m := by
 by_cases hx : x < 1
 ·by_cases h : ∃ k ∈ M, k ≤ x
  ·obtain ⟨k, hk, hkx, hmax⟩ := max_le_mark M x h
   rw [← mark_same hf (fun a ha h => ht a ha (by grind)) hkx hmax, ← mark_same hf' (fun a ha h => ht' a ha (by grind)) hkx hmax]
   exact he k hk
  ·constructor
   ·rintro ⟨a, ha, h1, h2⟩; exact absurd ⟨a.1, hf a ha, h1⟩ h
   ·rintro ⟨a, ha, h1, h2⟩; exact absurd ⟨a.1, hf' a ha, h1⟩ h
 ·constructor
  ·intro h; exact absurd (in01_mem hl h).2 hx
  ·intro h; exact absurd (in01_mem hm h).2 hx
end Go.Num
end
section
set_option linter.unusedVariables false
set_option linter.unusedSimpArgs false
set_option maxRecDepth 100000
namespace Go.Num
theorem awake_n : nrm [(Rat.divInt 1 2, Rat.divInt 3 4), (Rat.divInt 1 4, Rat.divInt 1 2)] = [(Rat.divInt 1 4, Rat.divInt 3 4)] := by
 have h := sweep_eq (l := [(Rat.divInt 1 2, Rat.divInt 3 4), (Rat.divInt 1 4, Rat.divInt 1 2)]) (s := [(Rat.divInt 1 4, Rat.divInt 1 2), (Rat.divInt 1 2, Rat.divInt 3 4)])
  (by unfold Pos; decide +kernel) (List.Perm.swap _ _ _) (by unfold SortQ; decide +kernel)
 rw [← h]
 decide +kernel
theorem awake_sh : shL (Rat.divInt 1 2) [(Rat.divInt 1 2, Rat.divInt 3 4), (Rat.divInt 1 4, Rat.divInt 1 2)] = [(0, Rat.divInt 1 4), (Rat.divInt 3 4, 1)] := by decide +kernel
theorem awake_s : nrm [(0, Rat.divInt 1 4), (Rat.divInt 3 4, 1)] = [(0, Rat.divInt 1 4), (Rat.divInt 3 4, 1)] := by
 have h := sweep_eq (l := [(0, Rat.divInt 1 4), (Rat.divInt 3 4, 1)]) (s := [(0, Rat.divInt 1 4), (Rat.divInt 3 4, 1)])
  (by unfold Pos; decide +kernel) (List.Perm.refl _) (by unfold SortQ; decide +kernel)
 rw [← h]
 decide +kernel
def ValQ (l : List Q2) : Prop := Pos l ∧ In01 l
theorem badA_can {q : Q2} (h : 0 ≤ q.1 ∧ q.2 ≤ 1 ∧ q.1 < q.2) : badA (acan q) = false :=
 badA_f.2 ⟨vld_rcan _, vld_rcan _, by simp only [acan, rv_rcan]; exact h.1, by simp only [acan, rv_rcan]; exact h.2.1, by simp only [acan, rv_rcan]; exact h.2.2⟩
theorem chk_can {l : List Q2} (hl : l.length ≤ 64) (hp : Pos l) (hi : In01 l) : chk [l.map acan] = 0 := by
 rw [chk_1]
 unfold chk1
 rw [if_neg (by simp; omega), if_neg]
 intro h
 obtain ⟨x, hx, hb⟩ := List.any_eq_true.1 h
 obtain ⟨q, hq, rfl⟩ := List.mem_map.1 hx
 rw [badA_can ⟨(hi q hq).1, (hi q hq).2, hp q hq⟩] at hb
 exact absurd hb (by simp)
theorem WLA_cans (l : List Q2) : ∀ z ∈ l.map acan, WLA z := fun z hz => by
 obtain ⟨q, _, rfl⟩ := List.mem_map.1 hz
 exact WLA_can q
theorem okAs_can {b : Nat} {l : List Q2} (h : ∀ q ∈ l, rz q.1 ≤ b ∧ rz q.2 ≤ b) : okAs b (l.map acan) := fun z hz => by
 obtain ⟨q, hq, rfl⟩ := List.mem_map.1 hz
 exact okA_can (h q hq).1 (h q hq).2
end Go.Num
namespace Go.Abs
open Go.Num
variable {P : Program} {Γ : Nat → Spec}
theorem onAs_1 (k : List Arc → Prop) (x y : R) : onAs k (.one (.slice [[cb x, cn x, cd x, cb y, cn y, cd y]])) = ((∀ z ∈ [(x, y)], WLA z) ∧ k [(x, y)]) := onAs_e k [(x, y)]
theorem onAs_2 (k : List Arc → Prop) (x y x' y' : R) : onAs k (.one (.slice [[cb x, cn x, cd x, cb y, cn y, cd y], [cb x', cn x', cd x', cb y', cn y', cd y']])) = ((∀ z ∈ [(x, y), (x', y')], WLA z) ∧ k [(x, y), (x', y')]) := onAs_e k [(x, y), (x', y')]
theorem onAs_x1 (k : List Arc → Prop) (x : Arc) : onAs k (.one (.slice [aC x])) = ((∀ z ∈ [x], WLA z) ∧ k [x]) := onAs_e k [x]
theorem onAs_x2 (k : List Arc → Prop) (x y : Arc) : onAs k (.one (.slice [aC x, aC y])) = ((∀ z ∈ [x, y], WLA z) ∧ k [x, y]) := onAs_e k [x, y]
theorem onAs_z2 (k : List Arc → Prop) (y x' y' : R) : onAs k (.one (.slice [[.lit (.bool false), .slice [], .slice [], cb y, cn y, cd y], [cb x', cn x', cd x', cb y', cn y', cd y']])) = ((∀ z ∈ [(rcan 0, y), (x', y')], WLA z) ∧ k [(rcan 0, y), (x', y')]) := by
 rw [rcan_zero]; exact onAs_e k [((false, [], []), y), (x', y')]
attribute [go_sem] onAs_1 onAs_2 onAs_x1 onAs_x2 onAs_z2
attribute [go_sem ↓] onAs_1 onAs_2 onAs_x1 onAs_x2 onAs_z2
def lawake_G (l : List AV) (K : AV → Prop) : Prop :=
 match l with
 | [] => K (.one (.lit (.bool true)))
 | _ => False
theorem lawake_Ge (K : AV → Prop) : lawake_G [] K = (K (.one (.lit (.bool true)))) := propext Iff.rfl
@[congr] theorem lawake_Gc {K : AV → Prop} {l l' : List AV} (h : l = l') : lawake_G l K = lawake_G l' K := by subst h; rfl
attribute [go_sem] lawake_Ge
attribute [go_sem ↓] lawake_Ge
theorem lawake_good : Good lawake_G := good_of fun as => by
 unfold lawake_G
 split
 ·exact (.ret _)
 ·exact .of fun K hk => hk.elim
def ac_linkworklaw54_awake (f0 f1 f2 f3 : Nat) : AC := (.seq (.ops false [.m 0 .fa])
 (.fg [] (.seq (.ops false [.u 6 (.call f0 [(.i 1), (.i 2)]), .u 7 (.call f0 [(.i 3), (.i 4)]), .u 8 (.build [.x 3 (.t 6), .x 3 (.t 7)]), .u 9 (.call f0 [(.i 1), (.i 4)]), .u 10 (.call f0 [(.i 1), (.i 2)]), .u 11 (.build [.x 3 (.t 9), .x 3 (.t 10)]), .u 12 (.row 6 [[.x 6 (.t 8)], [.x 6 (.t 11)]]), .m 1 (.t 12)])
 (.fg [1] (.seq (.ops false [.m 14 (.t 1), .u 15 (.call f1 [(.t 14)]), .m 13 (.t 15), .u 16 (.ext 0 (.t 13)), .u 17 (.ext 1 (.t 13)), .m 2 (.t 16), .m 3 (.t 17)])
 (.fg [1, 2, 3] (.seq (.ops false [.m 19 (.t 1), .u 20 (.call f0 [(.i 1), (.i 2)]), .u 21 (.call f2 [(.t 19), (.t 20)]), .m 18 (.t 21), .u 22 (.ext 0 (.t 18)), .u 23 (.ext 1 (.t 18)), .m 4 (.t 22), .m 5 (.t 23)])
 (.fg [2, 3, 4, 5] (.seq (.ops false [.m 24 (.t 3), .u 25 (.binn .eql (.t 24) (.c (.one (.lit .nilIface)))), .m 26 (.t 25), .w 27 26 true (.mv (.t 5)), .w 28 26 true (.binn .eql (.t 27) (.c (.one (.lit .nilIface)))), .u 29 (.pick (.t 26) (.t 28) .fa), .m 30 (.t 29), .w 31 30 true (.mv (.t 2)), .w 32 30 true (.call f0 [(.i 1), (.i 4)]), .w 33 30 true (.call f0 [(.i 3), (.i 4)]), .w 34 30 true (.build [.x 3 (.t 32), .x 3 (.t 33)]), .w 35 30 true (.row 6 [[.x 6 (.t 34)]]), .w 36 30 true (.call f3 [(.t 31), (.t 35)]), .u 37 (.pick (.t 30) (.t 36) .fa), .m 38 (.t 37), .w 39 38 true (.mv (.t 4)), .w 40 38 true (.call f0 [(.i 1), (.i 4)]), .w 41 38 true (.build [.z [(.lit (.bool false)), .emp, .emp], .x 3 (.t 40)]), .w 42 38 true (.call f0 [(.i 3), (.i 4)]), .w 43 38 true (.call f0 [(.i 1), (.i 1)]), .w 44 38 true (.build [.x 3 (.t 42), .x 3 (.t 43)]), .w 45 38 true (.row 6 [[.x 6 (.t 41)], [.x 6 (.t 44)]]), .w 46 38 true (.call f3 [(.t 39), (.t 45)]), .u 47 (.pick (.t 38) (.t 46) .fa), .m 0 (.t 47)])
 .ret)))))))))
theorem lawake_sound (hΓ : Holds P Γ) {f fp fn fs fe tE m m' : Nat} (hm : 2 ≤ m) (hm' : 4 ≤ m') (hp : Γ fp = .dat false rpart_G) (hn : Γ fn = .dat false (cNorm_G tE m)) (hs : Γ fs = .dat false (cShift_G tE m')) (he : Γ fe = .dat true rsame_G) (hc : check P f = some (48, (ac_linkworklaw54_awake fp fn fs fe).strip, [.tmp 0])) : Sound P f (.dat true lawake_G) := by
 refine sound_dat hc lawake_good hΓ (fun args K hcl hfi hG => ?_)
 match args, hG with
 | [], hK =>
  simp only [lawake_G] at hK
  refine ⟨by simp, ?_⟩
  obtain ⟨A, hA⟩ : ∃ A, A = [(rcan (Rat.divInt 1 2), rcan (Rat.divInt 3 4)), (rcan (Rat.divInt 1 4), rcan (Rat.divInt 1 2))] := ⟨_, rfl⟩
  have hv : vals A = [(Rat.divInt 1 2, Rat.divInt 3 4), (Rat.divInt 1 4, Rat.divInt 1 2)] := by rw [hA]; simp [vals, av, rv_rcan]
  have hAc : A = [(Rat.divInt 1 2, Rat.divInt 3 4), (Rat.divInt 1 4, Rat.divInt 1 2)].map acan := by rw [hA]; rfl
  have hk : chk [A] = 0 := by rw [hAc]; exact chk_can (by decide) (by unfold Pos; decide +kernel) (by unfold In01; decide +kernel)
  have hw : ∀ z ∈ A, WLA z := by
   rw [hAc]; intro z hz
   obtain ⟨q, _, rfl⟩ := List.mem_map.1 hz
   exact WLA_can q
  have hz : ∀ q ∈ [Rat.divInt 1 2, Rat.divInt 3 4, Rat.divInt 1 4, 1, 0], rz q ≤ 1000000 := by
   have h2 : ∀ n : Int, n.natAbs ≤ 4 → zs n ≤ 2 := fun n hn => zs_of (by omega)
   intro q hq
   refine Nat.le_trans (rz_le (s := 2) (h2 _ ?_) (h2 _ ?_)) (by decide) <;> revert q <;> decide +kernel
  have ho : okAs 10000000 A := by
   rw [hA]; intro z hz'
   simp only [List.mem_cons, List.not_mem_nil, or_false] at hz'
   rcases hz' with rfl | rfl
   ·exact ⟨⟨WLR_rcan _, WLR_rcan _⟩, Nat.max_le.2 ⟨Nat.le_trans (hz _ (by simp)) (by decide), Nat.le_trans (hz _ (by simp)) (by decide)⟩⟩
   ·exact ⟨⟨WLR_rcan _, WLR_rcan _⟩, Nat.max_le.2 ⟨Nat.le_trans (hz _ (by simp)) (by decide), Nat.le_trans (hz _ (by simp)) (by decide)⟩⟩
  have hs1 : shOut A (rcan (Rat.divInt 1 2)) = [(0, Rat.divInt 1 4), (Rat.divInt 3 4, 1)] := by
   unfold shOut
   rw [if_pos ⟨hk, vld_rcan _⟩, rv_rcan, hv, awake_sh, awake_s]; rfl
  have hs2 : shCode A (rcan (Rat.divInt 1 2)) = 0 := by
   unfold shCode
   rw [if_pos hk, if_pos (vld_rcan _), rv_rcan, hv, awake_sh, awake_s]; rfl
  simp only [go_sem, ac_linkworklaw54_awake, hp, hn, hs, he, ← hA, hk, hv, hs1, hs2, errV_0, awake_n]
  have hl : A.length = 2 := by rw [hA]; rfl
  have ho2 : okAs 4294967296 A := okAs_mono ho (by decide)
  have hz' : ∀ q ∈ [Rat.divInt 1 2, Rat.divInt 3 4, Rat.divInt 1 4, 1, 0], rz q ≤ 1073741824 := fun q hq => Nat.le_trans (hz q hq) (by decide)
  have e1 : vals [(rcan (Rat.divInt 1 4), rcan (Rat.divInt 3 4))] = [(Rat.divInt 1 4, Rat.divInt 3 4)] := vals_can [(Rat.divInt 1 4, Rat.divInt 3 4)]
  have e2 : vals [acan (Rat.divInt 1 4, Rat.divInt 3 4)] = [(Rat.divInt 1 4, Rat.divInt 3 4)] := vals_can [(Rat.divInt 1 4, Rat.divInt 3 4)]
  have e3 : vals [acan (0, Rat.divInt 1 4), acan (Rat.divInt 3 4, 1)] = [(0, Rat.divInt 1 4), (Rat.divInt 3 4, 1)] := vals_can [(0, Rat.divInt 1 4), (Rat.divInt 3 4, 1)]
  have e5 : Rat.divInt 1 1 = 1 := by decide +kernel
  have e4 : vals [(rcan 0, rcan (Rat.divInt 1 4)), (rcan (Rat.divInt 3 4), rcan (Rat.divInt 1 1))] = [(0, Rat.divInt 1 4), (Rat.divInt 3 4, 1)] := by rw [e5]; exact vals_can [(0, Rat.divInt 1 4), (Rat.divInt 3 4, 1)]
  have w1 := WLA_cans [(Rat.divInt 1 4, Rat.divInt 3 4)]
  have w2 := WLA_cans [(0, Rat.divInt 1 4), (Rat.divInt 3 4, 1)]
  have o1 : okAs 1073741824 ([(Rat.divInt 1 4, Rat.divInt 3 4)].map acan) := okAs_can (by intro q hq; rw [List.mem_singleton] at hq; subst hq; exact ⟨hz' _ (by simp), hz' _ (by simp)⟩)
  have o2 : okAs 1073741824 ([(0, Rat.divInt 1 4), (Rat.divInt 3 4, 1)].map acan) := okAs_can (by
   intro q hq
   simp only [List.mem_cons, List.not_mem_nil, or_false] at hq
   rcases hq with rfl | rfl <;> exact ⟨hz' _ (by simp), hz' _ (by simp)⟩)
  rw [e1, e2, e3, e4, hl, e5, decide_eq_true rfl]
  refine ⟨by omega, by omega, by omega, by omega, by omega, by omega, by omega, by omega, by omega, by omega, by omega, by omega, hw, hm, ho2, by omega, by omega, by omega, hw, by omega, ho, Nat.le_trans (hz _ (by simp)) (by decide), by omega, by omega, by omega, by omega, by omega, by omega,
   w1, w1, o1, o1, fun _ => ⟨by omega, by omega, by omega, by omega, by omega, by omega, by omega, by omega, by omega, w2, w2, o2, o2, hK⟩, fun h => absurd rfl h⟩
end Go.Abs
end
section
set_option linter.unusedVariables false
set_option linter.unusedSimpArgs false
set_option maxRecDepth 100000
namespace Go.Num
theorem getM {α : Type} (U V : List α) (x d : α) {n : Nat} (h : U.length = n) : (U ++ x :: V).getD n d = x := by
 subst h
 simp [List.getD_eq_getElem?_getD]
theorem setM {α : Type} (U V : List α) (x y : α) {n : Nat} (h : U.length = n) : (U ++ x :: V).set n y = U ++ y :: V := by
 subst h
 rw [List.set_append_right _ _ (Nat.le_refl _), Nat.sub_self, List.set_cons_zero]
end Go.Num
namespace Go.Abs
open Go.Num
variable {P : Program} {Γ : Nat → Spec}
def swp_G (fc : Nat) (d : Option Nat) (args : List AV) (h : Nat → HB) (K : AV → (Nat → HB) → Prop) : Prop :=
 match args with
 | [.one (.own r ver 6 0 len), .one (.lit (.int .i64 a)), .one (.lit (.int .i64 b)), .one (.lit (.int .i64 n)), c] => ∃ (U A M B V : List Arc), c = fnV fc ∧ a = U.length ∧ b = (U.length + A.length + M.length : Nat) ∧ n = A.length ∧ A.length = B.length ∧
   U.length + A.length + M.length + B.length ≤ len ∧ len ≤ U.length + A.length + M.length + B.length + V.length ∧ len ≤ 68719476736 ∧
   h r = ⟨ver, some ⟨(U ++ A ++ M ++ B ++ V).map aC, 6, true⟩⟩ ∧ K (.tup []) (upd h r ⟨ver, some ⟨(U ++ B ++ M ++ A ++ V).map aC, 6, true⟩⟩)
 | _ => False
@[congr] theorem swp_Gc {fc : Nat} {d : Option Nat} {l l' : List AV} {h h' : Nat → HB} {K : AV → (Nat → HB) → Prop} (e1 : l = l') (e2 : h = h') : swp_G fc d l h K = swp_G fc d l' h' K := by subst e1; subst e2; rfl
def rot_G (fc : Nat) (d : Option Nat) (args : List AV) (h : Nat → HB) (K : AV → (Nat → HB) → Prop) : Prop :=
 match args with
 | [.one (.own r ver 6 0 len), .one (.lit (.int .i64 a)), .one (.lit (.int .i64 m)), .one (.lit (.int .i64 b)), c] => ∃ (U A B V : List Arc), c = fnV fc ∧ a = U.length ∧ m = (U.length + A.length : Nat) ∧ b = (U.length + A.length + B.length : Nat) ∧ A ≠ [] ∧ B ≠ [] ∧
   U.length + A.length + B.length ≤ len ∧ len ≤ U.length + A.length + B.length + V.length ∧ len ≤ 68719476736 ∧
   h r = ⟨ver, some ⟨(U ++ A ++ B ++ V).map aC, 6, true⟩⟩ ∧ K (.tup []) (upd h r ⟨ver, some ⟨(U ++ B ++ A ++ V).map aC, 6, true⟩⟩)
 | _ => False
@[congr] theorem rot_Gc {fc : Nat} {d : Option Nat} {l l' : List AV} {h h' : Nat → HB} {K : AV → (Nat → HB) → Prop} (e1 : l = l') (e2 : h = h') : rot_G fc d l h K = rot_G fc d l' h' K := by subst e1; subst e2; rfl
def mrg_G (fc N : Nat) (d : Option Nat) (args : List AV) (h : Nat → HB) (K : AV → (Nat → HB) → Prop) : Prop :=
 match args with
 | [.one (.own r ver 6 0 len), .one (.lit (.int .i64 a)), .one (.lit (.int .i64 m)), .one (.lit (.int .i64 b)), c] => ∃ (U A B V : List Arc), c = fnV fc ∧ a = U.length ∧ m = (U.length + A.length : Nat) ∧ b = (U.length + A.length + B.length : Nat) ∧ A ≠ [] ∧ B ≠ [] ∧ A.length + B.length ≤ N ∧
   U.length + A.length + B.length ≤ len ∧ len ≤ U.length + A.length + B.length + V.length ∧ len ≤ 1073741824 ∧ okAs 4294967296 A ∧ okAs 4294967296 B ∧ SortA A ∧ SortA B ∧
   h r = ⟨ver, some ⟨(U ++ A ++ B ++ V).map aC, 6, true⟩⟩ ∧ ∀ C : List Arc, (A ++ B).Perm C → SortA C → K (.tup []) (upd h r ⟨ver, some ⟨(U ++ C ++ V).map aC, 6, true⟩⟩)
 | _ => False
@[congr] theorem mrg_Gc {fc N : Nat} {d : Option Nat} {l l' : List AV} {h h' : Nat → HB} {K : AV → (Nat → HB) → Prop} (e1 : l = l') (e2 : h = h') : mrg_G fc N d l h K = mrg_G fc N d l' h' K := by subst e1; subst e2; rfl
def ac_slices_swapRangeCmpFunc_g : AC := (.seq (.ops false [.m 10 (.i 0)])
 (.fg [0, 1, 2, 3, 10] (.block 0 (.loop (.seq (.seq (.ops false [.m 11 (.t 10), .m 12 (.t 3), .u 13 (.bin .lss (.t 11) (.t 12))])
 (.fg [0, 1, 2, 3, 10, 13] (.cond (.t 13) .skip (.exit 0))))
 (.fg [0, 1, 2, 3, 10] (.seq (.block 1 (.ops true [.m 16 (.t 0), .m 17 (.t 1), .m 18 (.t 10), .u 19 (.bin .add (.t 17) (.t 18)), .m 20 (.t 0), .m 21 (.t 2), .m 22 (.t 10), .u 23 (.bin .add (.t 21) (.t 22)), .m 24 (.t 0), .m 25 (.t 2), .m 26 (.t 10), .u 27 (.bin .add (.t 25) (.t 26)), .u 28 (.idx 6 (.t 24) (.t 27)), .u 29 (.ld none 6 true (.t 28)), .m 30 (.t 0), .m 31 (.t 1), .m 32 (.t 10), .u 33 (.bin .add (.t 31) (.t 32)), .u 34 (.idx 6 (.t 30) (.t 33)), .u 35 (.ld none 6 true (.t 34)), .u 36 (.idx 6 (.t 16) (.t 19)), .n (.st none 6 (.t 36) (.t 29)), .u 37 (.idx 6 (.t 20) (.t 23)), .n (.st none 6 (.t 37) (.t 35))]))
 (.fg [0, 1, 2, 3, 10] (.ops false [.m 14 (.t 10), .u 15 (.bin .add (.t 14) (.i 1)), .m 10 (.t 15)])))))))))
def ac_slices_rotateCmpFunc_g (f0 : Nat) : AC := (.seq (.ops false [.m 12 (.t 2), .m 13 (.t 1), .u 14 (.bin .sub (.t 12) (.t 13)), .m 10 (.t 14)])
 (.fg [0, 2, 3, 4, 10] (.seq (.ops false [.m 15 (.t 3), .m 16 (.t 2), .u 17 (.bin .sub (.t 15) (.t 16)), .m 11 (.t 17)])
 (.fg [0, 2, 4, 10, 11] (.seq (.block 0 (.loop (.seq (.seq (.ops false [.m 18 (.t 10), .m 19 (.t 11), .u 20 (.bin .neq (.t 18) (.t 19))])
 (.fg [0, 2, 4, 10, 11, 20] (.cond (.t 20) .skip (.exit 0))))
 (.fg [0, 2, 4, 10, 11] (.block 1 (.seq (.ops false [.m 21 (.t 10), .m 22 (.t 11), .u 23 (.bin .gtr (.t 21) (.t 22))])
 (.fg [0, 2, 4, 10, 11, 23] (.cond (.t 23) (.seq (.ops false [.m 24 (.t 0), .m 25 (.t 2), .m 26 (.t 10), .u 27 (.bin .sub (.t 25) (.t 26)), .m 28 (.t 2), .m 29 (.t 11), .m 30 (.t 4), .u 31 (.call f0 [(.t 24), (.t 27), (.t 28), (.t 29), (.t 30)])])
 (.fg [0, 2, 4, 10, 11] (.ops false [.m 32 (.t 10), .m 33 (.t 11), .u 34 (.bin .sub (.t 32) (.t 33)), .m 10 (.t 34)]))) (.seq (.ops false [.m 35 (.t 0), .m 36 (.t 2), .m 37 (.t 10), .u 38 (.bin .sub (.t 36) (.t 37)), .m 39 (.t 2), .m 40 (.t 11), .u 41 (.bin .add (.t 39) (.t 40)), .m 42 (.t 10), .u 43 (.bin .sub (.t 41) (.t 42)), .m 44 (.t 10), .m 45 (.t 4), .u 46 (.call f0 [(.t 35), (.t 38), (.t 43), (.t 44), (.t 45)])])
 (.fg [0, 2, 4, 10, 11] (.ops false [.m 47 (.t 11), .m 48 (.t 10), .u 49 (.bin .sub (.t 47) (.t 48)), .m 11 (.t 49)])))))))))))
 (.fg [0, 2, 4, 10] (.ops false [.m 50 (.t 0), .m 51 (.t 2), .m 52 (.t 10), .u 53 (.bin .sub (.t 51) (.t 52)), .m 54 (.t 2), .m 55 (.t 10), .m 56 (.t 4), .u 57 (.call f0 [(.t 50), (.t 53), (.t 54), (.t 55), (.t 56)])])))))))
def ac_slices_symMergeCmpFunc_g (f0 f1 : Nat) : AC := (.seq (.seq (.ops false [.m 25 (.t 2), .m 26 (.t 1), .u 27 (.bin .sub (.t 25) (.t 26)), .u 28 (.bin .eql (.t 27) (.i 1))])
 (.fg [0, 1, 2, 3, 4, 28] (.cond (.t 28) (.seq (.ops false [.m 29 (.t 2), .m 10 (.t 29)])
 (.fg [0, 1, 3, 4, 10] (.seq (.ops false [.m 30 (.t 3), .m 11 (.t 30)])
 (.fg [0, 1, 4, 10, 11] (.seq (.block 0 (.loop (.seq (.seq (.ops false [.m 31 (.t 10), .m 32 (.t 11), .u 33 (.bin .lss (.t 31) (.t 32))])
 (.fg [0, 1, 4, 10, 11, 33] (.cond (.t 33) .skip (.exit 0))))
 (.fg [0, 1, 4, 10, 11] (.block 1 (.seq (.ops false [.m 34 (.t 10), .m 35 (.t 11), .u 36 (.bin .add (.t 34) (.t 35)), .u 37 (.conv .u64 (.t 36)), .u 38 (.bin .shr (.t 37) (.c (.one (.lit (.int .u64 1))))), .u 39 (.conv .i64 (.t 38)), .m 12 (.t 39)])
 (.fg [0, 1, 4, 10, 11, 12] (.seq (.ops true [.m 40 (.t 4), .m 41 (.t 0), .m 42 (.t 12), .u 43 (.idx 6 (.t 41) (.t 42)), .u 44 (.ld none 6 true (.t 43)), .m 45 (.t 0), .m 46 (.t 1), .u 47 (.idx 6 (.t 45) (.t 46)), .u 48 (.ld none 6 true (.t 47)), .u 49 (.callv (.t 40) [(.t 44), (.t 48)]), .u 50 (.bin .lss (.t 49) (.i 0))])
 (.fg [0, 1, 4, 10, 11, 12, 50] (.cond (.t 50) (.ops false [.m 51 (.t 12), .u 52 (.bin .add (.t 51) (.i 1)), .m 10 (.t 52)]) (.ops false [.m 53 (.t 12), .m 11 (.t 53)])))))))))))
 (.fg [0, 1, 10] (.seq (.seq (.ops false [.m 54 (.t 1), .m 13 (.t 54)])
 (.fg [0, 10, 13] (.block 2 (.loop (.seq (.seq (.ops false [.m 55 (.t 13), .m 56 (.t 10), .u 57 (.bin .sub (.t 56) (.i 1)), .u 58 (.bin .lss (.t 55) (.t 57))])
 (.fg [0, 10, 13, 58] (.cond (.t 58) .skip (.exit 2))))
 (.fg [0, 10, 13] (.seq (.block 3 (.ops true [.m 61 (.t 0), .m 62 (.t 13), .m 63 (.t 0), .m 64 (.t 13), .u 65 (.bin .add (.t 64) (.i 1)), .m 66 (.t 0), .m 67 (.t 13), .u 68 (.bin .add (.t 67) (.i 1)), .u 69 (.idx 6 (.t 66) (.t 68)), .u 70 (.ld none 6 true (.t 69)), .m 71 (.t 0), .m 72 (.t 13), .u 73 (.idx 6 (.t 71) (.t 72)), .u 74 (.ld none 6 true (.t 73)), .u 75 (.idx 6 (.t 61) (.t 62)), .n (.st none 6 (.t 75) (.t 70)), .u 76 (.idx 6 (.t 63) (.t 65)), .n (.st none 6 (.t 76) (.t 74))]))
 (.fg [0, 10, 13] (.ops false [.m 59 (.t 13), .u 60 (.bin .add (.t 59) (.i 1)), .m 13 (.t 60)])))))))))
 .ret))))))) .skip)))
 (.fg [0, 1, 2, 3, 4] (.seq (.seq (.ops false [.m 77 (.t 3), .m 78 (.t 2), .u 79 (.bin .sub (.t 77) (.t 78)), .u 80 (.bin .eql (.t 79) (.i 1))])
 (.fg [0, 1, 2, 3, 4, 80] (.cond (.t 80) (.seq (.ops false [.m 81 (.t 1), .m 14 (.t 81)])
 (.fg [0, 2, 4, 14] (.seq (.ops false [.m 82 (.t 2), .m 15 (.t 82)])
 (.fg [0, 2, 4, 14, 15] (.seq (.block 4 (.loop (.seq (.seq (.ops false [.m 83 (.t 14), .m 84 (.t 15), .u 85 (.bin .lss (.t 83) (.t 84))])
 (.fg [0, 2, 4, 14, 15, 85] (.cond (.t 85) .skip (.exit 4))))
 (.fg [0, 2, 4, 14, 15] (.block 5 (.seq (.ops false [.m 86 (.t 14), .m 87 (.t 15), .u 88 (.bin .add (.t 86) (.t 87)), .u 89 (.conv .u64 (.t 88)), .u 90 (.bin .shr (.t 89) (.c (.one (.lit (.int .u64 1))))), .u 91 (.conv .i64 (.t 90)), .m 16 (.t 91)])
 (.fg [0, 2, 4, 14, 15, 16] (.seq (.ops true [.m 92 (.t 4), .m 93 (.t 0), .m 94 (.t 2), .u 95 (.idx 6 (.t 93) (.t 94)), .u 96 (.ld none 6 true (.t 95)), .m 97 (.t 0), .m 98 (.t 16), .u 99 (.idx 6 (.t 97) (.t 98)), .u 100 (.ld none 6 true (.t 99)), .u 101 (.callv (.t 92) [(.t 96), (.t 100)]), .u 102 (.bin .lss (.t 101) (.i 0)), .u 103 (.un .not (.t 102))])
 (.fg [0, 2, 4, 14, 15, 16, 103] (.cond (.t 103) (.ops false [.m 104 (.t 16), .u 105 (.bin .add (.t 104) (.i 1)), .m 14 (.t 105)]) (.ops false [.m 106 (.t 16), .m 15 (.t 106)])))))))))))
 (.fg [0, 2, 14] (.seq (.seq (.ops false [.m 107 (.t 2), .m 17 (.t 107)])
 (.fg [0, 14, 17] (.block 6 (.loop (.seq (.seq (.ops false [.m 108 (.t 17), .m 109 (.t 14), .u 110 (.bin .gtr (.t 108) (.t 109))])
 (.fg [0, 14, 17, 110] (.cond (.t 110) .skip (.exit 6))))
 (.fg [0, 14, 17] (.seq (.block 7 (.ops true [.m 113 (.t 0), .m 114 (.t 17), .m 115 (.t 0), .m 116 (.t 17), .u 117 (.bin .sub (.t 116) (.i 1)), .m 118 (.t 0), .m 119 (.t 17), .u 120 (.bin .sub (.t 119) (.i 1)), .u 121 (.idx 6 (.t 118) (.t 120)), .u 122 (.ld none 6 true (.t 121)), .m 123 (.t 0), .m 124 (.t 17), .u 125 (.idx 6 (.t 123) (.t 124)), .u 126 (.ld none 6 true (.t 125)), .u 127 (.idx 6 (.t 113) (.t 114)), .n (.st none 6 (.t 127) (.t 122)), .u 128 (.idx 6 (.t 115) (.t 117)), .n (.st none 6 (.t 128) (.t 126))]))
 (.fg [0, 14, 17] (.ops false [.m 111 (.t 17), .u 112 (.bin .sub (.t 111) (.i 1)), .m 17 (.t 112)])))))))))
 .ret))))))) .skip)))
 (.fg [0, 1, 2, 3, 4] (.seq (.ops false [.m 129 (.t 1), .m 130 (.t 3), .u 131 (.bin .add (.t 129) (.t 130)), .u 132 (.conv .u64 (.t 131)), .u 133 (.bin .shr (.t 132) (.c (.one (.lit (.int .u64 1))))), .u 134 (.conv .i64 (.t 133)), .m 18 (.t 134)])
 (.fg [0, 1, 2, 3, 4, 18] (.seq (.ops false [.m 135 (.t 18), .m 136 (.t 2), .u 137 (.bin .add (.t 135) (.t 136)), .m 19 (.t 137)])
 (.fg [0, 1, 2, 3, 4, 18, 19] (.seq (.ops false [.m 20 (.i 0), .m 21 (.i 0)])
 (.fg [0, 1, 2, 3, 4, 18, 19] (.seq (.seq (.ops false [.m 138 (.t 2), .m 139 (.t 18), .u 140 (.bin .gtr (.t 138) (.t 139))])
 (.fg [0, 1, 2, 3, 4, 18, 19, 140] (.cond (.t 140) (.seq (.ops false [.m 141 (.t 19), .m 142 (.t 3), .u 143 (.bin .sub (.t 141) (.t 142)), .m 20 (.t 143)])
 (.fg [0, 1, 2, 3, 4, 18, 19, 20] (.ops false [.m 144 (.t 18), .m 21 (.t 144)]))) (.seq (.ops false [.m 145 (.t 1), .m 20 (.t 145)])
 (.fg [0, 1, 2, 3, 4, 18, 19, 20] (.ops false [.m 146 (.t 2), .m 21 (.t 146)]))))))
 (.fg [0, 1, 2, 3, 4, 18, 19, 20, 21] (.seq (.ops false [.m 147 (.t 19), .u 148 (.bin .sub (.t 147) (.i 1)), .m 22 (.t 148)])
 (.fg [0, 1, 2, 3, 4, 18, 19, 20, 21, 22] (.seq (.block 8 (.loop (.seq (.seq (.ops false [.m 149 (.t 20), .m 150 (.t 21), .u 151 (.bin .lss (.t 149) (.t 150))])
 (.fg [0, 1, 2, 3, 4, 18, 19, 20, 21, 22, 151] (.cond (.t 151) .skip (.exit 8))))
 (.fg [0, 1, 2, 3, 4, 18, 19, 20, 21, 22] (.block 9 (.seq (.ops false [.m 152 (.t 20), .m 153 (.t 21), .u 154 (.bin .add (.t 152) (.t 153)), .u 155 (.conv .u64 (.t 154)), .u 156 (.bin .shr (.t 155) (.c (.one (.lit (.int .u64 1))))), .u 157 (.conv .i64 (.t 156)), .m 23 (.t 157)])
 (.fg [0, 1, 2, 3, 4, 18, 19, 20, 21, 22, 23] (.seq (.ops true [.m 158 (.t 4), .m 159 (.t 0), .m 160 (.t 22), .m 161 (.t 23), .u 162 (.bin .sub (.t 160) (.t 161)), .u 163 (.idx 6 (.t 159) (.t 162)), .u 164 (.ld none 6 true (.t 163)), .m 165 (.t 0), .m 166 (.t 23), .u 167 (.idx 6 (.t 165) (.t 166)), .u 168 (.ld none 6 true (.t 167)), .u 169 (.callv (.t 158) [(.t 164), (.t 168)]), .u 170 (.bin .lss (.t 169) (.i 0)), .u 171 (.un .not (.t 170))])
 (.fg [0, 1, 2, 3, 4, 18, 19, 20, 21, 22, 23, 171] (.cond (.t 171) (.ops false [.m 172 (.t 23), .u 173 (.bin .add (.t 172) (.i 1)), .m 20 (.t 173)]) (.ops false [.m 174 (.t 23), .m 21 (.t 174)])))))))))))
 (.fg [0, 1, 2, 3, 4, 18, 19, 20] (.seq (.ops false [.m 175 (.t 19), .m 176 (.t 20), .u 177 (.bin .sub (.t 175) (.t 176)), .m 24 (.t 177)])
 (.fg [0, 1, 2, 3, 4, 18, 20, 24] (.seq (.seq (.ops false [.m 178 (.t 20), .m 179 (.t 2), .u 180 (.bin .lss (.t 178) (.t 179)), .m 181 (.t 180), .w 182 181 true (.mv (.t 2)), .w 183 181 true (.mv (.t 24)), .w 184 181 true (.bin .lss (.t 182) (.t 183)), .u 185 (.pick (.t 181) (.t 184) .fa)])
 (.fg [0, 1, 2, 3, 4, 18, 20, 24, 185] (.cond (.t 185) (.ops false [.m 186 (.t 0), .m 187 (.t 20), .m 188 (.t 2), .m 189 (.t 24), .m 190 (.t 4), .u 191 (.call f0 [(.t 186), (.t 187), (.t 188), (.t 189), (.t 190)])]) .skip)))
 (.fg [0, 1, 3, 4, 18, 20, 24] (.seq (.seq (.ops false [.m 192 (.t 1), .m 193 (.t 20), .u 194 (.bin .lss (.t 192) (.t 193)), .m 195 (.t 194), .w 196 195 true (.mv (.t 20)), .w 197 195 true (.mv (.t 18)), .w 198 195 true (.bin .lss (.t 196) (.t 197)), .u 199 (.pick (.t 195) (.t 198) .fa)])
 (.fg [0, 1, 3, 4, 18, 20, 24, 199] (.cond (.t 199) (.ops false [.m 200 (.t 0), .m 201 (.t 1), .m 202 (.t 20), .m 203 (.t 18), .m 204 (.t 4), .u 205 (.call f1 [(.t 200), (.t 201), (.t 202), (.t 203), (.t 204)])]) .skip)))
 (.fg [0, 3, 4, 18, 24] (.seq (.ops false [.m 206 (.t 18), .m 207 (.t 24), .u 208 (.bin .lss (.t 206) (.t 207)), .m 209 (.t 208), .w 210 209 true (.mv (.t 24)), .w 211 209 true (.mv (.t 3)), .w 212 209 true (.bin .lss (.t 210) (.t 211)), .u 213 (.pick (.t 209) (.t 212) .fa)])
 (.fg [0, 3, 4, 18, 24, 213] (.cond (.t 213) (.ops false [.m 214 (.t 0), .m 215 (.t 18), .m 216 (.t 24), .m 217 (.t 3), .m 218 (.t 4), .u 219 (.call f1 [(.t 214), (.t 215), (.t 216), (.t 217), (.t 218)])]) .skip)))))))))))))))))))))))))
theorem swp_sound (hΓ : Holds P Γ) {f fc : Nat} (hc : check P f = some (38, ac_slices_swapRangeCmpFunc_g.strip, [])) : Sound P f (.own (swp_G fc)) := by
 refine sound_own hc hΓ (fun d args h K hG => ?_)
 unfold swp_G at hG
 split at hG
 case h_2 => exact hG.elim
 rename_i r ver len x1 x2 x3 c
 obtain ⟨U, A, M, B, V, rfl, hx1, hx2, hx3, hAB, hlen, hlen2, hroom, hr, hK⟩ := hG
 obtain ⟨D, hD⟩ : ∃ D, D = U ++ A ++ M ++ B ++ V := ⟨_, rfl⟩
 rw [← hD] at hr
 have hDl : D.length = U.length + A.length + M.length + B.length + V.length := by rw [hD]; simp [Nat.add_assoc]
 refine ⟨[r], [⟨D.map aC, 6, true⟩], [.one (.own 1048576 ver 6 0 len), .one (.lit (.int .i64 x1)), .one (.lit (.int .i64 x2)), .one (.lit (.int .i64 x3)), fnV fc], by simp, rfl, ?_, ?_, ?_, fun hfi => ⟨by simp, ?_⟩⟩
 ·intro i r' b h1 h2
  cases i with
  | zero => simp only [List.getElem?_cons_zero, Option.some.injEq] at h1 h2; subst h1 h2; exact ⟨by rw [hr], rfl, of_eq_true (clean_as _)⟩
  | succ i => simp at h1
 ·simp [exA, exC, exB, nameOf, pinA, fnV]
 ·intro a ha
  simp only [List.mem_cons, List.not_mem_nil, or_false] at ha
  rcases ha with rfl | rfl | rfl | rfl | rfl
  ·simp [pasA, pasC, pasB, nameOf, pinA]
  ·exact .lit _
  ·exact .lit _
  ·exact .lit _
  ·exact .lit _
 simp only [go_sem, ac_slices_swapRangeCmpFunc_g, hr, fnV]
 refine wpA_loop (fun p : List Arc × List Arc × List Arc × List Arc => ⟨mkV [(0, .one (.own 1048576 ver 6 0 len)), (1, .one (.lit (.int .i64 x1))), (2, .one (.lit (.int .i64 x2))), (3, .one (.lit (.int .i64 x3))), (10, .one (.lit (.int .i64 p.1.length)))], mkH [(1048576, ⟨ver, some ⟨(U ++ (p.2.2.1 ++ p.2.1) ++ M ++ (p.1 ++ p.2.2.2) ++ V).map aC, 6, true⟩⟩)]⟩)
  (fun p => A = p.1 ++ p.2.1 ∧ B = p.2.2.1 ++ p.2.2.2 ∧ p.1.length = p.2.2.1.length) (fun p => p.2.1.length) ([], A, [], B) ?_ ?_ ?_
 ·exact weak_lit (by simp [okS, okV, okC, okL, okH, okB, okE, mkV_cons, mkV_nil, mkH_cons, mkH_nil, wsA, ws]) (okH_a (by simp [hD]))
 ·exact ⟨rfl, rfl, rfl⟩
 ·rintro ⟨A1, A2, B1, B2⟩ ⟨hA, hB, h1⟩
  simp only at hA hB h1
  have lA := congrArg List.length hA
  have lB := congrArg List.length hB
  simp only [List.length_append] at lA lB
  rcases A2 with _ | ⟨x, A2⟩
  ·have hlt : ¬ ((A1.length : Int) < x3) := by simp only [List.length_nil] at lA; omega
   simp only [go_sem, hr, hlt]
   rcases B2 with _ | ⟨y, B2⟩
   ·simp only [List.append_nil] at hA hB ⊢
    subst hA hB
    exact hK
   ·simp only [List.length_nil, List.length_cons] at *; omega
  ·rcases B2 with _ | ⟨y, B2⟩
   ·simp only [List.length_nil, List.length_cons] at *; omega
   ·simp only [List.length_cons] at lA lB
    have hlt : (A1.length : Int) < x3 := by omega
    obtain ⟨E, hE⟩ : ∃ E, E = U ++ (B1 ++ x :: A2) ++ M ++ (A1 ++ y :: B2) ++ V := ⟨_, rfl⟩
    have hEl : E.length = D.length := by rw [hE, hDl]; simp only [List.length_append, List.length_cons]; omega
    have e1 : E = (U ++ B1) ++ x :: (A2 ++ M ++ (A1 ++ y :: B2) ++ V) := by rw [hE]; simp
    have e2 : E = (U ++ (B1 ++ x :: A2) ++ M ++ A1) ++ y :: (B2 ++ V) := by rw [hE]; simp
    obtain ⟨i1, hi1⟩ : ∃ i1 : Nat, i1 = U.length + A1.length := ⟨_, rfl⟩
    obtain ⟨i2, hi2⟩ : ∃ i2 : Nat, i2 = U.length + A.length + M.length + A1.length := ⟨_, rfl⟩
    have n1 : x1 + (A1.length : Int) = (i1 : Int) := by omega
    have n2 : x2 + (A1.length : Int) = (i2 : Int) := by omega
    have g1 : E.getD i1 a0 = x := by rw [e1]; exact getM _ _ _ _ (by simp; omega)
    have g2 : E.getD i2 a0 = y := by rw [e2]; exact getM _ _ _ _ (by simp; omega)
    have b1 : i1 < len := by omega
    have b2 : i2 < len := by omega
    have c1 : i1 < E.length := by omega
    have c2 : i2 < E.length := by omega
    have s1 : (E.set i1 y).set i2 x = U ++ ((B1 ++ [y]) ++ A2) ++ M ++ ((A1 ++ [x]) ++ B2) ++ V := by
     have : E.set i1 y = (U ++ B1) ++ y :: (A2 ++ M ++ (A1 ++ y :: B2) ++ V) := by rw [e1]; exact setM _ _ _ _ (by simp; omega)
     rw [this]
     have : (U ++ B1) ++ y :: (A2 ++ M ++ (A1 ++ y :: B2) ++ V) = (U ++ (B1 ++ y :: A2) ++ M ++ A1) ++ y :: (B2 ++ V) := by simp
     rw [this, setM _ _ _ _ (by simp; omega)]
     simp
    simp only [← hE]
    simp only [go_sem, hr, hlt, n1, n2, g1, g2, b1, b2, c1, c2, s1, List.length_set]
    refine ⟨by omega, by omega, by omega, by omega, by omega, (A1 ++ [x], A2, B1 ++ [y], B2), weak_lit (by simp [okS, okV, okC, okL, okH, okB, okE, mkV_cons, mkV_nil, mkH_cons, mkH_nil, wsA, ws]) (okH_a rfl), ⟨by rw [hA]; simp, by rw [hB]; simp, by simp [h1]⟩, by simp⟩
theorem rot_sound (hΓ : Holds P Γ) {f fs fc : Nat} (hs : Γ fs = .own (swp_G fc)) (hc : check P f = some (58, (ac_slices_rotateCmpFunc_g fs).strip, [])) : Sound P f (.own (rot_G fc)) := by
 refine sound_own hc hΓ (fun d args h K hG => ?_)
 unfold rot_G at hG
 split at hG
 case h_2 => exact hG.elim
 rename_i r ver len x1 x2 x3 c
 obtain ⟨U, A, B, V, rfl, hx1, hx2, hx3, hA0, hB0, hlen, hlen2, hroom, hr, hK⟩ := hG
 obtain ⟨D, hD⟩ : ∃ D, D = U ++ A ++ B ++ V := ⟨_, rfl⟩
 rw [← hD] at hr
 have hDl : D.length = U.length + A.length + B.length + V.length := by rw [hD]; simp [Nat.add_assoc]
 have hAp := List.length_pos_iff.2 hA0
 have hBp := List.length_pos_iff.2 hB0
 refine ⟨[r], [⟨D.map aC, 6, true⟩], [.one (.own 1048576 ver 6 0 len), .one (.lit (.int .i64 x1)), .one (.lit (.int .i64 x2)), .one (.lit (.int .i64 x3)), fnV fc], by simp, rfl, ?_, ?_, ?_, fun hfi => ⟨by simp, ?_⟩⟩
 ·intro i r' b h1 h2
  cases i with
  | zero => simp only [List.getElem?_cons_zero, Option.some.injEq] at h1 h2; subst h1 h2; exact ⟨by rw [hr], rfl, of_eq_true (clean_as _)⟩
  | succ i => simp at h1
 ·simp [exA, exC, exB, nameOf, pinA, fnV]
 ·intro a ha
  simp only [List.mem_cons, List.not_mem_nil, or_false] at ha
  rcases ha with rfl | rfl | rfl | rfl | rfl
  ·simp [pasA, pasC, pasB, nameOf, pinA]
  ·exact .lit _
  ·exact .lit _
  ·exact .lit _
  ·exact .lit _
 have n1 : x2 - x1 = (A.length : Int) := by omega
 have n2 : x3 - x2 = (B.length : Int) := by omega
 simp only [go_sem, ac_slices_rotateCmpFunc_g, hr, fnV, hs, n1, n2]
 refine ⟨by omega, by omega, ?_⟩
 refine wpA_loop (fun p : List Arc × List Arc × List Arc × List Arc => ⟨mkV [(0, .one (.own 1048576 ver 6 0 len)), (2, .one (.lit (.int .i64 x2))), (4, .one (.lit (.func (.func fc) ⟨[]⟩ ⟨[]⟩))), (10, .one (.lit (.int .i64 p.2.1.length))), (11, .one (.lit (.int .i64 p.2.2.1.length)))], mkH [(1048576, ⟨ver, some ⟨(p.1 ++ p.2.1 ++ p.2.2.1 ++ p.2.2.2).map aC, 6, true⟩⟩)]⟩)
  (fun p => p.1 ++ p.2.2.1 ++ p.2.1 ++ p.2.2.2 = U ++ B ++ A ++ V ∧ x2 = (p.1.length + p.2.1.length : Nat) ∧ p.2.1 ≠ [] ∧ p.2.2.1 ≠ [] ∧ (p.2.1.length + p.2.2.1.length ≤ A.length + B.length) ∧ x2 + p.2.2.1.length ≤ x3) (fun p => p.2.1.length + p.2.2.1.length) (U, A, B, V) ?_ ?_ ?_
 ·exact weak_lit (by simp [okS, okV, okC, okL, okH, okB, okE, mkV_cons, mkV_nil, mkH_cons, mkH_nil, wsA, ws]) (okH_a (by simp [hD]))
 ·exact ⟨rfl, by simp only; omega, hA0, hB0, Nat.le_refl _, by simp only; omega⟩
 ·rintro ⟨U', A', B', V'⟩ ⟨hT, hx2', hA1, hB1, hsz, hx3'⟩
  simp only at hT hx2' hA1 hB1 hsz hx3'
  have hTl := congrArg List.length hT
  simp only [List.length_append] at hTl
  have hAp' := List.length_pos_iff.2 hA1
  have hBp' := List.length_pos_iff.2 hB1
  have n1 : x2 - (A'.length : Int) = (U'.length : Int) := by omega
  by_cases heq : A'.length = B'.length
  ·have heq' : (A'.length : Int) = (B'.length : Int) := by omega
   simp only [go_sem, hr, hs, fnV, n1, ← heq', ne_eq, not_true_eq_false]
   refine ⟨by omega, ?_⟩
   simp only [swp_G]
   refine ⟨U', A', [], B', V', rfl, rfl, by simp; omega, rfl, heq, by simp; omega, by simp; omega, by omega, by simp [mkH_cons], ?_⟩
   simp only [go_sem, hr]
   have : U' ++ B' ++ [] ++ A' ++ V' = U ++ B ++ A ++ V := by rw [← hT]; simp
   rw [List.append_nil] at this
   rw [this]
   exact hK
  ·have heq' : ¬ (A'.length : Int) = (B'.length : Int) := by omega
   by_cases hgt : B'.length < A'.length
   ·have hgt' : (B'.length : Int) < (A'.length : Int) := by omega
    simp only [go_sem, hr, hs, fnV, n1, heq', hgt', ne_eq]
    obtain ⟨A1, A2, rfl, hA1l⟩ : ∃ A1 A2, A' = A1 ++ A2 ∧ A1.length = B'.length := ⟨A'.take B'.length, A'.drop B'.length, (List.take_append_drop _ _).symm, by rw [List.length_take]; omega⟩
    have hA12 : (A1 ++ A2).length = A1.length + A2.length := List.length_append
    have n3 : ((A1 ++ A2).length : Int) - (B'.length : Int) = (A2.length : Int) := by omega
    refine ⟨by omega, ?_⟩
    simp only [swp_G]
    refine ⟨U', A1, A2, B', V', rfl, rfl, by omega, by omega, hA1l, by omega, by omega, by omega, by simp [mkH_cons], ?_⟩
    rw [n3]
    simp only [go_sem, hr]
    have z1 : A2.length ≠ 0 := by omega
    have z2 : A1.length ≠ 0 := by omega
    refine ⟨by omega, (U' ++ B', A2, A1, V'), weak_lit (by simp [okS, okV, okC, okL, okH, okB, okE, mkV_cons, mkV_nil, mkH_cons, mkH_nil, wsA, ws]; omega) (okH_a rfl), ⟨by simp only; rw [← hT]; simp, by simp only [List.length_append]; omega, ?_, ?_, by simp only; omega, by simp only; omega⟩, by simp only; omega⟩
    ·exact fun h => z1 (List.length_eq_zero_iff.2 h)
    ·exact fun h => z2 (List.length_eq_zero_iff.2 h)
   ·have hgt' : ¬ (B'.length : Int) < (A'.length : Int) := by omega
    simp only [go_sem, hr, hs, fnV, n1, heq', hgt', ne_eq]
    obtain ⟨B1, B2, rfl, hB2l⟩ : ∃ B1 B2, B' = B1 ++ B2 ∧ B2.length = A'.length := ⟨B'.take (B'.length - A'.length), B'.drop (B'.length - A'.length), (List.take_append_drop _ _).symm, by rw [List.length_drop]; omega⟩
    have hB12 : (B1 ++ B2).length = B1.length + B2.length := List.length_append
    have n3 : ((B1 ++ B2).length : Int) - (A'.length : Int) = (B1.length : Int) := by omega
    refine ⟨by omega, by omega, by omega, ?_⟩
    simp only [swp_G]
    refine ⟨U', A', B1, B2, V', rfl, rfl, by omega, by omega, by omega, by omega, by omega, by omega, by simp [mkH_cons], ?_⟩
    rw [n3]
    simp only [go_sem, hr]
    have z1 : B1.length ≠ 0 := by omega
    have z2 : B2.length ≠ 0 := by omega
    refine ⟨by omega, (U', B2, B1, A' ++ V'), weak_lit (by simp [okS, okV, okC, okL, okH, okB, okE, mkV_cons, mkV_nil, mkH_cons, mkH_nil, wsA, ws]; omega) (okH_a (by simp)), ⟨by simp only; rw [← hT]; simp, by simp only; omega, ?_, ?_, by simp only; omega, by simp only; omega⟩, by simp only; omega⟩
    ·exact fun h => z2 (List.length_eq_zero_iff.2 h)
    ·exact fun h => z1 (List.length_eq_zero_iff.2 h)
def keyA (x : Arc) : Rat := rv x.1
theorem sortA_append {A B : List Arc} (hA : SortA A) (hB : SortA B) (h : ∀ x ∈ A, ∀ y ∈ B, rv x.1 ≤ rv y.1) : SortA (A ++ B) :=
 List.pairwise_append.2 ⟨hA, hB, h⟩
theorem sortA_left {A B : List Arc} (h : SortA (A ++ B)) : SortA A := (List.pairwise_append.1 h).1
theorem sortA_right {A B : List Arc} (h : SortA (A ++ B)) : SortA B := (List.pairwise_append.1 h).2.1
theorem sortA_cross {A B : List Arc} (h : SortA (A ++ B)) : ∀ x ∈ A, ∀ y ∈ B, rv x.1 ≤ rv y.1 := (List.pairwise_append.1 h).2.2
theorem sortA_get {A : List Arc} (h : SortA A) {i j : Nat} (hi : i < A.length) (hj : j < A.length) (hij : i ≤ j) : rv (A[i]).1 ≤ rv (A[j]).1 := by
 by_cases e : i = j
 ·subst e; exact Rat.le_refl
 ·exact List.pairwise_iff_getElem.1 h i j hi hj (by omega)
theorem take_le {A : List Arc} (hA : SortA A) {s : Nat} (hs : 0 < s) (hsl : s ≤ A.length) {q : Rat} (h : rv (A.getD (s - 1) a0).1 ≤ q) : ∀ x ∈ A.take s, rv x.1 ≤ q := by
 intro x hx
 obtain ⟨i, hi, rfl⟩ := List.mem_iff_getElem.1 hx
 rw [List.length_take] at hi
 rw [List.getElem_take]
 refine Rat.le_trans (sortA_get hA (by omega) (show s - 1 < A.length by omega) (by omega)) ?_
 rw [List.getD_eq_getElem?_getD, List.getElem?_eq_getElem (by omega)] at h
 exact h
theorem drop_ge {A : List Arc} (hA : SortA A) {s : Nat} (hsl : s < A.length) {q : Rat} (h : q ≤ rv (A.getD s a0).1) : ∀ x ∈ A.drop s, q ≤ rv x.1 := by
 intro x hx
 obtain ⟨i, hi, rfl⟩ := List.mem_iff_getElem.1 hx
 rw [List.length_drop] at hi
 rw [List.getElem_drop]
 refine Rat.le_trans ?_ (sortA_get hA hsl (show s + i < A.length by omega) (by omega))
 rw [List.getD_eq_getElem?_getD, List.getElem?_eq_getElem (by omega)] at h
 exact h
theorem getL (U A V : List Arc) {k i : Nat} (h1 : k = U.length + i) (h2 : i < A.length) : (U ++ A ++ V).getD k a0 = A.getD i a0 := by
 subst h1
 simp only [List.getD_eq_getElem?_getD]
 rw [List.getElem?_append_left (by simp; omega), List.getElem?_append_right (by omega)]
 congr 2; omega
end Go.Abs
end
