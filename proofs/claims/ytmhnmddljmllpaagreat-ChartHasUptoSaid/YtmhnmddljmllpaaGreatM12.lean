/-
  Parts of the proof, merged: RefF.
-/
import Derived.Test.YtmhnmddljmllpaaGreatM11
set_option linter.unusedVariables false
set_option linter.unusedSimpArgs false
/-
  The second integers: the package's functions.
-/
section
set_option linter.unusedVariables false
set_option linter.unusedSimpArgs false
set_option maxRecDepth 100000
namespace Go.Abs
open Go.Num

variable {P : Program} {Γ : Nat → Spec}

/-- linkwork/linkworkref01.form (14) [.cell 4 2 true] -/
def ac_linkworkref01_form (f_linkworkref01_trim : Nat) : AC := (.seq (.ops false [⟨some 4, none, .alloc [(.lit (.bool false)), .emp]⟩])
 (.fg [0, 1, 4] (.seq (.ops false [⟨some 5, none, .mv (.t 1)⟩, ⟨some 6, none, .callf f_linkworkref01_trim [(.t 5)]⟩, ⟨some 1, none, .mv (.t 6)⟩])
 (.fg [0, 1, 4] (.seq (.seq (.ops false [⟨some 7, none, .mv (.t 1)⟩, ⟨some 8, none, .len (.t 7)⟩, ⟨some 9, none, .bin .eql (.t 8) (.c (.one (.lit (.int .i64 0))))⟩])
 (.fg [0, 1, 4, 9] (.cond (.t 9) (.seq (.ops false [⟨some 10, none, .build [.z [(.lit (.bool false)), .emp]]⟩, ⟨none, none, .st none 2 (.t 4) (.t 10)⟩])
 .ret) .skip)))
 (.fg [0, 1, 4] (.seq (.ops false [⟨some 11, none, .mv (.t 0)⟩, ⟨some 12, none, .mv (.t 1)⟩, ⟨some 13, none, .build [.x 1 (.t 11), .x 1 (.t 12)]⟩, ⟨none, none, .st none 2 (.t 4) (.t 13)⟩])
 .ret)))))))

/-- linkwork/linkworkref01.Sign (9) [.tmp 2] -/
def ac_linkworkref01_Sign (f_linkworkref01_mag f_linkworkref01_neg : Nat) : AC := (.seq (.ops false [⟨some 1, none, .box 2 (.t 0)⟩, ⟨some 2, none, .mv (.c (.one (.lit (.int .i64 0))))⟩])
 (.fg [1] (.seq (.seq (.ops false [⟨some 3, none, .ld none 2 true (.t 1)⟩, ⟨some 4, none, .call f_linkworkref01_mag [(.t 3)]⟩, ⟨some 5, none, .len (.t 4)⟩, ⟨some 6, none, .bin .eql (.t 5) (.c (.one (.lit (.int .i64 0))))⟩])
 (.fg [1, 6] (.cond (.t 6) (.seq (.ops false [⟨some 2, none, .mv (.c (.one (.lit (.int .i64 0))))⟩])
 .ret) .skip)))
 (.fg [1] (.seq (.seq (.ops false [⟨some 7, none, .ld none 2 true (.t 1)⟩, ⟨some 8, none, .call f_linkworkref01_neg [(.t 7)]⟩])
 (.fg [8] (.cond (.t 8) (.seq (.ops false [⟨some 2, none, .mv (.c (.one (.lit (.int .i64 (-1)))))⟩])
 .ret) .skip)))
 (.fg [] (.seq (.ops false [⟨some 2, none, .mv (.c (.one (.lit (.int .i64 1))))⟩])
 .ret)))))))

/-- linkwork/linkworkref01.Cmp (9) [.tmp 4] -/
def ac_linkworkref01_Cmp (f_linkworkref01_Sub f_linkworkref01_Sign : Nat) : AC := (.seq (.ops false [⟨some 2, none, .box 2 (.t 0)⟩, ⟨some 3, none, .box 2 (.t 1)⟩, ⟨some 4, none, .mv (.c (.one (.lit (.int .i64 0))))⟩])
 (.fg [2, 3] (.seq (.ops false [⟨some 5, none, .ld none 2 true (.t 2)⟩, ⟨some 6, none, .ld none 2 true (.t 3)⟩, ⟨some 7, none, .call f_linkworkref01_Sub [(.t 5), (.t 6)]⟩, ⟨some 8, none, .call f_linkworkref01_Sign [(.t 7)]⟩, ⟨some 4, none, .mv (.t 8)⟩])
 .ret)))

/-- linkwork/linkworkref01.Add (38) [.cell 4 2 true] -/
def ac_linkworkref01_Add (f_linkworkref01_mag f_linkworkref01_neg f_linkworkref01_plus f_linkworkref01_form f_linkworkref01_compare f_linkworkref01_minus : Nat) : AC := (.seq (.ops false [⟨some 2, none, .box 2 (.t 0)⟩, ⟨some 3, none, .box 2 (.t 1)⟩, ⟨some 4, none, .alloc [(.lit (.bool false)), .emp]⟩])
 (.fg [2, 3, 4] (.seq (.ops true [⟨some 7, none, .ld none 2 true (.t 2)⟩, ⟨some 8, none, .call f_linkworkref01_mag [(.t 7)]⟩, ⟨some 9, none, .ld none 2 true (.t 3)⟩, ⟨some 10, none, .call f_linkworkref01_mag [(.t 9)]⟩, ⟨some 5, none, .mv (.t 8)⟩, ⟨some 6, none, .mv (.t 10)⟩])
 (.fg [2, 3, 4, 5, 6] (.seq (.seq (.ops true [⟨some 11, none, .ld none 2 true (.t 2)⟩, ⟨some 12, none, .call f_linkworkref01_neg [(.t 11)]⟩, ⟨some 13, none, .ld none 2 true (.t 3)⟩, ⟨some 14, none, .call f_linkworkref01_neg [(.t 13)]⟩, ⟨some 15, none, .binb .eql (.t 12) (.t 14)⟩])
 (.fg [2, 3, 4, 5, 6, 15] (.cond (.t 15) (.seq (.ops false [⟨some 16, none, .ld none 2 true (.t 2)⟩, ⟨some 17, none, .call f_linkworkref01_neg [(.t 16)]⟩, ⟨some 18, none, .mv (.t 5)⟩, ⟨some 19, none, .mv (.t 6)⟩, ⟨some 20, none, .call f_linkworkref01_plus [(.t 18), (.t 19)]⟩, ⟨some 21, none, .call f_linkworkref01_form [(.t 17), (.t 20)]⟩, ⟨none, none, .st none 2 (.t 4) (.t 21)⟩])
 .ret) .skip)))
 (.fg [2, 3, 4, 5, 6] (.seq (.seq (.ops false [⟨some 22, none, .mv (.t 5)⟩, ⟨some 23, none, .mv (.t 6)⟩, ⟨some 24, none, .call f_linkworkref01_compare [(.t 22), (.t 23)]⟩, ⟨some 25, none, .bin .geq (.t 24) (.c (.one (.lit (.int .i64 0))))⟩])
 (.fg [2, 3, 4, 5, 6, 25] (.cond (.t 25) (.seq (.ops false [⟨some 26, none, .ld none 2 true (.t 2)⟩, ⟨some 27, none, .call f_linkworkref01_neg [(.t 26)]⟩, ⟨some 28, none, .mv (.t 5)⟩, ⟨some 29, none, .mv (.t 6)⟩, ⟨some 30, none, .call f_linkworkref01_minus [(.t 28), (.t 29)]⟩, ⟨some 31, none, .call f_linkworkref01_form [(.t 27), (.t 30)]⟩, ⟨none, none, .st none 2 (.t 4) (.t 31)⟩])
 .ret) .skip)))
 (.fg [3, 4, 5, 6] (.seq (.ops false [⟨some 32, none, .ld none 2 true (.t 3)⟩, ⟨some 33, none, .call f_linkworkref01_neg [(.t 32)]⟩, ⟨some 34, none, .mv (.t 6)⟩, ⟨some 35, none, .mv (.t 5)⟩, ⟨some 36, none, .call f_linkworkref01_minus [(.t 34), (.t 35)]⟩, ⟨some 37, none, .call f_linkworkref01_form [(.t 33), (.t 36)]⟩, ⟨none, none, .st none 2 (.t 4) (.t 37)⟩])
 .ret)))))))))

/-- linkwork/linkworkref01.Sub (9) [.cell 4 2 true] -/
def ac_linkworkref01_Sub (f_linkworkref01_Neg f_linkworkref01_Add : Nat) : AC := (.seq (.ops false [⟨some 2, none, .box 2 (.t 0)⟩, ⟨some 3, none, .box 2 (.t 1)⟩, ⟨some 4, none, .alloc [(.lit (.bool false)), .emp]⟩])
 (.fg [2, 3, 4] (.seq (.ops true [⟨some 5, none, .ld none 2 true (.t 2)⟩, ⟨some 6, none, .ld none 2 true (.t 3)⟩, ⟨some 7, none, .call f_linkworkref01_Neg [(.t 6)]⟩, ⟨some 8, none, .call f_linkworkref01_Add [(.t 5), (.t 7)]⟩, ⟨none, none, .st none 2 (.t 4) (.t 8)⟩])
 .ret)))

/-- linkwork/linkworkref01.Gcd (11) [.cell 4 2 true] -/
def ac_linkworkref01_Gcd (f_linkworkref01_mag f_linkworkref01_gcd f_linkworkref01_form : Nat) : AC := (.seq (.ops false [⟨some 2, none, .box 2 (.t 0)⟩, ⟨some 3, none, .box 2 (.t 1)⟩, ⟨some 4, none, .alloc [(.lit (.bool false)), .emp]⟩])
 (.fg [2, 3, 4] (.seq (.ops true [⟨some 5, none, .ld none 2 true (.t 2)⟩, ⟨some 6, none, .call f_linkworkref01_mag [(.t 5)]⟩, ⟨some 7, none, .ld none 2 true (.t 3)⟩, ⟨some 8, none, .call f_linkworkref01_mag [(.t 7)]⟩, ⟨some 9, none, .call f_linkworkref01_gcd [(.t 6), (.t 8)]⟩, ⟨some 10, none, .call f_linkworkref01_form [(.c (.one (.lit (.bool false)))), (.t 9)]⟩, ⟨none, none, .st none 2 (.t 4) (.t 10)⟩])
 .ret)))

/-- linkwork/linkworkref01.Div (45) [.cell 4 2 true, .cell 5 2 true, .tmp 6] -/
def ac_linkworkref01_Div (f_linkworkref01_Sign f_linkworkref01_mag f_linkworkref01_divide f_linkworkref01_neg f_linkworkref01_plus f_linkworkref01_minus f_linkworkref01_form : Nat) : AC := (.seq (.ops false [⟨some 2, none, .box 2 (.t 0)⟩, ⟨some 3, none, .box 2 (.t 1)⟩, ⟨some 4, none, .alloc [(.lit (.bool false)), .emp]⟩, ⟨some 5, none, .alloc [(.lit (.bool false)), .emp]⟩, ⟨some 6, none, .mv (.c (.one (.lit (.int .i64 0))))⟩])
 (.fg [2, 3, 4, 5] (.seq (.seq (.ops false [⟨some 9, none, .ld none 2 true (.t 3)⟩, ⟨some 10, none, .call f_linkworkref01_Sign [(.t 9)]⟩, ⟨some 11, none, .bin .eql (.t 10) (.c (.one (.lit (.int .i64 0))))⟩])
 (.fg [2, 3, 4, 5, 11] (.cond (.t 11) (.seq (.ops false [⟨some 12, none, .build [.z [(.lit (.bool false)), .emp]]⟩, ⟨some 13, none, .build [.z [(.lit (.bool false)), .emp]]⟩, ⟨none, none, .st none 2 (.t 4) (.t 12)⟩, ⟨none, none, .st none 2 (.t 5) (.t 13)⟩, ⟨some 6, none, .mv (.c (.one (.lit (.int .i64 8))))⟩])
 .ret) .skip)))
 (.fg [2, 3, 4, 5] (.seq (.ops true [⟨some 15, none, .ld none 2 true (.t 2)⟩, ⟨some 16, none, .call f_linkworkref01_mag [(.t 15)]⟩, ⟨some 17, none, .ld none 2 true (.t 3)⟩, ⟨some 18, none, .call f_linkworkref01_mag [(.t 17)]⟩, ⟨some 19, none, .call f_linkworkref01_divide [(.t 16), (.t 18)]⟩, ⟨some 14, none, .mv (.t 19)⟩, ⟨some 20, none, .ext 0 (.t 14)⟩, ⟨some 21, none, .ext 1 (.t 14)⟩, ⟨some 7, none, .mv (.t 20)⟩, ⟨some 8, none, .mv (.t 21)⟩])
 (.fg [2, 3, 4, 5, 7, 8] (.seq (.seq (.ops false [⟨some 22, none, .ld none 2 true (.t 2)⟩, ⟨some 23, none, .call f_linkworkref01_neg [(.t 22)]⟩, ⟨some 24, none, .mv (.t 23)⟩, ⟨some 25, some (24, true), .mv (.t 8)⟩, ⟨some 26, some (24, true), .len (.t 25)⟩, ⟨some 27, some (24, true), .bin .gtr (.t 26) (.c (.one (.lit (.int .i64 0))))⟩, ⟨some 28, none, .pick (.t 24) (.t 27) (.c (.one (.lit (.bool false))))⟩])
 (.fg [2, 3, 4, 5, 7, 8, 28] (.cond (.t 28) (.ops true [⟨some 29, none, .mv (.t 7)⟩, ⟨some 30, none, .row 1 [[.x 1 (.c (.one (.lit (.int .u32 1))))]]⟩, ⟨some 31, none, .call f_linkworkref01_plus [(.t 29), (.t 30)]⟩, ⟨some 32, none, .ld none 2 true (.t 3)⟩, ⟨some 33, none, .call f_linkworkref01_mag [(.t 32)]⟩, ⟨some 34, none, .mv (.t 8)⟩, ⟨some 35, none, .call f_linkworkref01_minus [(.t 33), (.t 34)]⟩, ⟨some 7, none, .mv (.t 31)⟩, ⟨some 8, none, .mv (.t 35)⟩]) .skip)))
 (.fg [2, 3, 4, 5, 7, 8] (.seq (.ops true [⟨some 36, none, .ld none 2 true (.t 2)⟩, ⟨some 37, none, .call f_linkworkref01_neg [(.t 36)]⟩, ⟨some 38, none, .ld none 2 true (.t 3)⟩, ⟨some 39, none, .call f_linkworkref01_neg [(.t 38)]⟩, ⟨some 40, none, .binb .neq (.t 37) (.t 39)⟩, ⟨some 41, none, .mv (.t 7)⟩, ⟨some 42, none, .call f_linkworkref01_form [(.t 40), (.t 41)]⟩, ⟨some 43, none, .mv (.t 8)⟩, ⟨some 44, none, .call f_linkworkref01_form [(.c (.one (.lit (.bool false)))), (.t 43)]⟩, ⟨none, none, .st none 2 (.t 4) (.t 42)⟩, ⟨none, none, .st none 2 (.t 5) (.t 44)⟩, ⟨some 6, none, .mv (.c (.one (.lit (.int .i64 0))))⟩])
 .ret)))))))))


theorem form01_sound (hΓ : Holds P Γ) {f ft : Nat} (ht : Γ ft = .fresh 1 tr01_G) (hc : check P f = some (14, (ac_linkworkref01_form ft).strip, [.cell 4 2 true])) : Sound P f (.dat false whole_G) := by
  refine sound_dat hc whole_good hΓ (fun args K hcl hfi hG => ?_)
  match args, hG with
  | [a, m], hG =>
    obtain ⟨b, rfl, hG⟩ := asBool_inv hG
    obtain ⟨l, rfl, hl, hlen, hK⟩ := hG
    refine ⟨by simp, ?_⟩
    simp only [go_sem, ↓reduceIte, Nat.reduceEqDiff, Nat.reduceAdd, Nat.reduceLT, Nat.reduceLeDiff, Int.reduceToNat, Nat.reducePow, Nat.reduceMul, reduceCtorEq, ac_linkworkref01_form, ht]
    refine ⟨hl, hlen, fun _ => ⟨fun h => ?_, fun h => ?_⟩⟩
    · have h0 : val l = 0 := digs_len0.1 h
      have e : zcan (sg b (val l)) = zcan 0 := by rw [h0]; unfold sg; split <;> rfl
      rw [e] at hK
      have e2 : (zcan 0) = (false, []) := by simp [zcan, digs_zero]
      rw [e2] at hK; exact hK
    · rw [← can_sg] at hK
      have e : decide (0 < (digs (val l)).length) = true := by simp only [decide_eq_true_eq]; omega
      rw [e, Bool.and_true] at hK; exact hK

theorem zsign01_sound (hΓ : Holds P Γ) {f fm fn : Nat} (hm : Γ fm = .dat false zmag_G) (hn : Γ fn = .dat true znegp_G) (hc : check P f = some (9, (ac_linkworkref01_Sign fm fn).strip, [.tmp 2])) : Sound P f (.dat true zsign_G) := by
  refine sound_dat hc zsign_good hΓ (fun args K hcl hfi hG => ?_)
  match args, hG with
  | [a], hG =>
    obtain ⟨w, rfl, hw, hK⟩ := hG
    refine ⟨by simp, ?_⟩
    simp only [go_sem, ↓reduceIte, Nat.reduceEqDiff, Nat.reduceAdd, Nat.reduceLT, Nat.reduceLeDiff, Int.reduceToNat, Nat.reducePow, Nat.reduceMul, reduceCtorEq, ac_linkworkref01_Sign, hm, hn, hw]
    intro _
    refine ⟨fun h => ?_, fun h => ⟨fun hb => ?_, fun hb => ?_⟩⟩
    · have h0 : zv w = 0 := zs_eq_zero.1 h
      rw [h0] at hK; exact hK
    · rw [Int.sign_eq_neg_one_of_neg hb] at hK; exact hK
    · have h0 : zv w ≠ 0 := fun e => h (zs_eq_zero.2 e)
      rw [Int.sign_eq_one_of_pos (by omega)] at hK; exact hK

theorem zsub01_sound (hΓ : Holds P Γ) {f fn fa : Nat} (hn : Γ fn = .dat false zneg_G) (ha : Γ fa = .dat false zadd_G) (hc : check P f = some (9, (ac_linkworkref01_Sub fn fa).strip, [.cell 4 2 true])) : Sound P f (.dat false zsub_G) := by
  refine sound_dat hc zsub_good hΓ (fun args K hcl hfi hG => ?_)
  match args, hG with
  | [a, b], hG =>
    obtain ⟨v, rfl, hv, w, rfl, hw, hz, hz', hK⟩ := hG
    refine ⟨by simp, ?_⟩
    simp only [go_sem, ↓reduceIte, Nat.reduceEqDiff, Nat.reduceAdd, Nat.reduceLT, Nat.reduceLeDiff, Int.reduceToNat, Nat.reducePow, Nat.reduceMul, reduceCtorEq, ac_linkworkref01_Sub, hn, ha, hw, hv]
    refine ⟨by omega, hz, by rw [zs_neg]; exact hz', ?_⟩
    rw [← Int.sub_eq_add_neg]; exact hK

theorem zcmp01_sound (hΓ : Holds P Γ) {f fs fg : Nat} (hs : Γ fs = .dat false zsub_G) (hg : Γ fg = .dat true zsign_G) (hc : check P f = some (9, (ac_linkworkref01_Cmp fs fg).strip, [.tmp 4])) : Sound P f (.dat true zcmp01_G) := by
  refine sound_dat hc zcmp01_good hΓ (fun args K hcl hfi hG => ?_)
  match args, hG with
  | [a, b], hG =>
    obtain ⟨v, rfl, hv, w, rfl, hw, hz, hz', hz2, hK⟩ := hG
    refine ⟨by simp, ?_⟩
    simp only [go_sem, ↓reduceIte, Nat.reduceEqDiff, Nat.reduceAdd, Nat.reduceLT, Nat.reduceLeDiff, Int.reduceToNat, Nat.reducePow, Nat.reduceMul, reduceCtorEq, ac_linkworkref01_Cmp, hs, hg, hw, hv]
    refine ⟨hz, hz', ?_⟩
    have e : Int.sign (zv v - zv w) = ordI (zv v) (zv w) := by
      unfold ordI
      split
      · exact Int.sign_eq_neg_one_of_neg (by omega)
      · split
        · exact Int.sign_eq_one_of_pos (by omega)
        · rw [show zv v - zv w = 0 by omega]; rfl
    rw [e]; exact hK

theorem zgcd01_sound (hΓ : Holds P Γ) {f fm fg fw : Nat} (hm : Γ fm = .dat false zmag_G) (hg : Γ fg = .dat false gcd01_G) (hw' : Γ fw = .dat false whole_G) (hc : check P f = some (11, (ac_linkworkref01_Gcd fm fg fw).strip, [.cell 4 2 true])) : Sound P f (.dat false zgcd_G) := by
  refine sound_dat hc zgcd_good hΓ (fun args K hcl hfi hG => ?_)
  match args, hG with
  | [a, b], hG =>
    obtain ⟨v, rfl, hv, w, rfl, hw, hz, hz', hK⟩ := hG
    refine ⟨by simp, ?_⟩
    simp only [go_sem, ↓reduceIte, Nat.reduceEqDiff, Nat.reduceAdd, Nat.reduceLT, Nat.reduceLeDiff, Int.reduceToNat, Nat.reducePow, Nat.reduceMul, reduceCtorEq, ac_linkworkref01_Gcd, hm, hg, hw', hw, hv, val_digs]
    have hle : (digs ((zv v).natAbs.gcd (zv w).natAbs)).length ≤ 17179869184 := by
      rcases Nat.eq_zero_or_pos (zv v).natAbs with h | h
      · rw [h, Nat.gcd_zero_left]; exact hz'
      · exact Nat.le_trans (digs_len_mono (Nat.le_of_dvd h (Nat.gcd_dvd_left _ _))) hz
    exact ⟨digs_WL _, digs_WL _, hz, hz', digs_WL _, by omega, hK⟩

theorem zadd01_sound (hΓ : Holds P Γ) {f fn fm fp fw fc fl : Nat} (hn : Γ fn = .dat true znegp_G) (hm : Γ fm = .dat false zmag_G) (hp : Γ fp = .dat false plus_G) (hw' : Γ fw = .dat false whole_G) (hc' : Γ fc = .dat true cmp01_G) (hl : Γ fl = .dat false less_G) (hc : check P f = some (38, (ac_linkworkref01_Add fm fn fp fw fc fl).strip, [.cell 4 2 true])) : Sound P f (.dat false zadd_G) := by
  refine sound_dat hc zadd_good hΓ (fun args K hcl hfi hG => ?_)
  match args, hG with
  | [a, b], hG =>
    obtain ⟨v, rfl, hv, w, rfl, hw, hz, hz', hK⟩ := hG
    refine ⟨by simp, ?_⟩
    simp only [go_sem, ↓reduceIte, Nat.reduceEqDiff, Nat.reduceAdd, Nat.reduceLT, Nat.reduceLeDiff, Int.reduceToNat, Nat.reducePow, Nat.reduceMul, reduceCtorEq, ac_linkworkref01_Add, hn, hm, hp, hw', hc', hl, hw, hv]
    simp only [val_digs]
    have hsz := zs_add (zv v) (zv w)
    refine ⟨fun h => ⟨digs_WL _, digs_WL _, hz, hz', digs_WL _, ?_, ?_⟩, fun h => ⟨digs_WL _, digs_WL _, fun ho => ⟨digs_WL _, digs_WL _, by unfold zs at hz; omega, ?_, digs_WL _, ?_, ?_⟩, fun ho => ⟨digs_WL _, digs_WL _, by unfold zs at hz'; omega, ?_, digs_WL _, ?_, ?_⟩⟩⟩
    · have e := sg_add_same (of_decide_beq h)
      rw [show (zv v).natAbs + (zv w).natAbs = (zv v + zv w).natAbs by have := of_decide_beq h; omega]
      unfold zs at *; omega
    · rw [sg_add_same (of_decide_beq h)]; exact hK
    · exact (ordN_ge.1 ho)
    · have := digs_len_mono (Nat.sub_le (zv v).natAbs (zv w).natAbs); unfold zs at *; omega
    · have h1 := ordN_ge.1 ho
      rw [sg_sub (of_decide_bne h) h1]; exact hK
    · have := mt ordN_ge.2 ho; omega
    · have := digs_len_mono (Nat.sub_le (zv w).natAbs (zv v).natAbs); unfold zs at *; omega
    · have h1 := mt ordN_ge.2 ho
      rw [sg_sub (fun e => of_decide_bne h e.symm) (by omega), Int.add_comm]; exact hK

theorem zdiv01_sound (hΓ : Holds P Γ) {f fs fn fm fp fw fd fl : Nat} (hs : Γ fs = .dat true zsign_G) (hn : Γ fn = .dat true znegp_G) (hm : Γ fm = .dat false zmag_G) (hp : Γ fp = .dat false plus_G) (hw' : Γ fw = .dat false whole_G) (hd : Γ fd = .dat false divide_G) (hl : Γ fl = .dat false less_G) (hc : check P f = some (45, (ac_linkworkref01_Div fs fm fd fn fp fl fw).strip, [.cell 4 2 true, .cell 5 2 true, .tmp 6])) : Sound P f (.dat false zdiv01_G) := by
  refine sound_dat hc zdiv01_good hΓ (fun args K hcl hfi hG => ?_)
  match args, hG with
  | [a, b], hG =>
    obtain ⟨v, rfl, hv, w, rfl, hw, hz, hz', h0, hK⟩ := hG
    refine ⟨by simp, ?_⟩
    simp only [go_sem, ↓reduceIte, Nat.reduceEqDiff, Nat.reduceAdd, Nat.reduceLT, Nat.reduceLeDiff, Int.reduceToNat, Nat.reducePow, Nat.reduceMul, reduceCtorEq, ac_linkworkref01_Div, hs, hn, hm, hp, hw', hd, hl, hw, hv]
    simp only [val_digs]
    have hne : ¬ (digs (zv w).natAbs).length = 0 := fun e => h0 (zs_eq_zero.1 e)
    refine ⟨fun e => absurd (Int.sign_eq_zero_iff_zero.1 e) h0, fun _ => ⟨digs_WL _, digs_WL _, digs_NZ _, digs_NZ _, fun e => hne (by rw [e]; rfl), hz, hz', ?_⟩⟩
    have hq : (digs ((zv v).natAbs / (zv w).natAbs)).length ≤ 17179869184 := Nat.le_trans (digs_len_mono (Nat.div_le_self _ _)) hz
    have hr : (digs ((zv v).natAbs % (zv w).natAbs)).length ≤ 17179869184 := Nat.le_trans (digs_len_mono (Nat.mod_le _ _)) hz
    have hz'' : (digs (zv w).natAbs).length ≤ 17179869184 := hz'
    have hlt := Nat.mod_lt (zv v).natAbs (show 0 < (zv w).natAbs by omega)
    have hfin : (0 ≤ zv v ∨ (zv v).natAbs % (zv w).natAbs = 0) → K (AV.tup
        [AV.agg [zb (zcan (sg (!(decide (zv v < 0) == decide (zv w < 0))) ((zv v).natAbs / (zv w).natAbs))), zm (zcan (sg (!(decide (zv v < 0) == decide (zv w < 0))) ((zv v).natAbs / (zv w).natAbs)))],
          AV.agg [zb (zcan (sg false ((zv v).natAbs % (zv w).natAbs))), zm (zcan (sg false ((zv v).natAbs % (zv w).natAbs)))], AV.one (C.lit (Value.int IntKind.i64 0))]) := by
      intro h
      obtain ⟨e1, e2⟩ := ediv_pos h0 h
      have e1' : sg (!(decide (zv v < 0) == decide (zv w < 0))) ((zv v).natAbs / (zv w).natAbs) = zv v / zv w := e1
      have e2' : sg false ((zv v).natAbs % (zv w).natAbs) = zv v % zv w := e2
      rw [e1', e2']; exact hK
    refine ⟨fun hneg _ => ⟨fun hp => ⟨digs_WL _, (onWs_1 _ 1).mpr ⟨WL_cons.2 ⟨by decide, WL_nil⟩, hq, by decide, digs_WL _, digs_WL _, by omega, by omega, digs_WL _, ?_, digs_WL _, ?_, ?_⟩⟩, fun hp => ⟨digs_WL _, by omega, digs_WL _, by omega, hfin (.inr ?_)⟩⟩, fun hneg => ⟨digs_WL _, by omega, digs_WL _, by omega, hfin (.inl (by omega))⟩⟩
    · have hv1 : val [1] = 1 := rfl
      rw [hv1]
      have h1 : zs 1 ≤ 2 := zs_of (by decide)
      have := zs_add (((zv v).natAbs / (zv w).natAbs : Nat) : Int) 1
      have e : (((zv v).natAbs / (zv w).natAbs : Nat) : Int) + 1 = (((zv v).natAbs / (zv w).natAbs + 1 : Nat) : Int) := by omega
      rw [e] at this
      have h3 : zs (((zv v).natAbs / (zv w).natAbs : Nat) : Int) = (digs ((zv v).natAbs / (zv w).natAbs)).length := rfl
      have h4 : zs (((zv v).natAbs / (zv w).natAbs + 1 : Nat) : Int) = (digs ((zv v).natAbs / (zv w).natAbs + 1)).length := rfl
      rw [h3, h4] at this
      omega
    · have := digs_len_mono (Nat.sub_le (zv w).natAbs ((zv v).natAbs % (zv w).natAbs)); omega
    · have hv1 : val [1] = 1 := rfl
      rw [hv1]
      have hne' : (zv v).natAbs % (zv w).natAbs ≠ 0 := by
        intro e; rw [e, digs_zero] at hp; simp at hp
      obtain ⟨e1, e2⟩ := ediv_neg h0 hneg hne'
      have e1' : sg (!(decide (zv v < 0) == decide (zv w < 0))) ((zv v).natAbs / (zv w).natAbs + 1) = zv v / zv w := e1
      have e2' : sg false ((zv w).natAbs - (zv v).natAbs % (zv w).natAbs) = zv v % zv w := e2
      rw [e1', e2']; exact hK
    · have : digs ((zv v).natAbs % (zv w).natAbs) = [] := List.eq_nil_of_length_eq_zero (by omega)
      exact digs_eq_nil.1 this

end Go.Abs
end
