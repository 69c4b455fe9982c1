/-
  Parts of the proof, merged: IntC, IntD, IntE, IntF, IntG, IntH, IntK, RefB, RefC, RefD, RefE.
-/
import Derived.Test.YtmhnmddljmllpaaGreatM10
import Derived.Lib.BitFns
set_option linter.unusedVariables false
set_option linter.unusedSimpArgs false
/-
  The program's lists of words: trim, word, plus.
-/
section
set_option linter.unusedVariables false
set_option linter.unusedSimpArgs false
set_option maxRecDepth 100000
namespace Go.Abs
open Go.Num

variable {P : Program} {Γ : Nat → Spec}

/-- linkwork/integer.trim (25) [.tmp 2] -/
def ac_integer_trim : AC := (.seq (.ops false [⟨some 2, none, .mv (.c (.one .emp))⟩])
 (.fg [0] (.seq (.ops false [⟨some 4, none, .mv (.t 0)⟩, ⟨some 5, none, .len (.t 4)⟩, ⟨some 3, none, .mv (.t 5)⟩])
 (.fg [0, 3] (.seq (.block 0 (.loop (.seq (.seq (.ops false [⟨some 6, none, .mv (.t 3)⟩, ⟨some 7, none, .bin .gtr (.t 6) (.c (.one (.lit (.int .i64 0))))⟩, ⟨some 8, none, .mv (.t 7)⟩, ⟨some 9, some (8, true), .mv (.t 0)⟩, ⟨some 10, some (8, true), .mv (.t 3)⟩, ⟨some 11, some (8, true), .bin .sub (.t 10) (.c (.one (.lit (.int .i64 1))))⟩, ⟨some 12, some (8, true), .idx 1 (.t 9) (.t 11)⟩, ⟨some 13, some (8, true), .ld none 1 false (.t 12)⟩, ⟨some 14, some (8, true), .bin .eql (.t 13) (.c (.one (.lit (.int .u32 0))))⟩, ⟨some 15, none, .pick (.t 8) (.t 14) (.c (.one (.lit (.bool false))))⟩])
 (.fg [0, 3, 15] (.cond (.t 15) .skip (.exit 0))))
 (.fg [0, 3] (.block 1 (.ops false [⟨some 16, none, .mv (.t 3)⟩, ⟨some 17, none, .bin .sub (.t 16) (.c (.one (.lit (.int .i64 1))))⟩, ⟨some 3, none, .mv (.t 17)⟩]))))))
 (.fg [0, 3] (.seq (.seq (.ops false [⟨some 18, none, .mv (.t 3)⟩, ⟨some 19, none, .bin .eql (.t 18) (.c (.one (.lit (.int .i64 0))))⟩])
 (.fg [0, 3, 19] (.cond (.t 19) (.seq (.ops false [⟨some 2, none, .mv (.c (.one .emp))⟩])
 .ret) .skip)))
 (.fg [0, 3] (.seq (.ops false [⟨some 20, none, .mv (.c (.one .emp))⟩, ⟨some 21, none, .mv (.t 0)⟩, ⟨some 22, none, .mv (.t 3)⟩, ⟨some 23, none, .sl 1 (.t 21) none (some (.t 22))⟩, ⟨some 24, none, .app0 1 (.t 20) (.t 23)⟩, ⟨some 2, none, .mv (.t 24)⟩])
 .ret)))))))))

/-- linkwork/integer.word (14) [.tmp 4] -/
def ac_integer_word : AC := (.seq (.ops false [⟨some 4, none, .mv (.c (.one (.lit (.int .u64 0))))⟩])
 (.fg [0, 1] (.seq (.seq (.ops false [⟨some 5, none, .mv (.t 1)⟩, ⟨some 6, none, .mv (.t 0)⟩, ⟨some 7, none, .len (.t 6)⟩, ⟨some 8, none, .bin .lss (.t 5) (.t 7)⟩])
 (.fg [0, 1, 8] (.cond (.t 8) (.seq (.ops false [⟨some 9, none, .mv (.t 0)⟩, ⟨some 10, none, .mv (.t 1)⟩, ⟨some 11, none, .idx 1 (.t 9) (.t 10)⟩, ⟨some 12, none, .ld none 1 false (.t 11)⟩, ⟨some 13, none, .conv .u64 (.t 12)⟩, ⟨some 4, none, .mv (.t 13)⟩])
 .ret) .skip)))
 (.fg [] (.seq (.ops false [⟨some 4, none, .mv (.c (.one (.lit (.int .u64 0))))⟩])
 .ret)))))

/-- linkwork/integer.plus (39) [.tmp 4] -/
def ac_integer_plus (f_integer_word f_integer_trim : Nat) : AC := (.seq (.ops false [⟨some 4, none, .mv (.c (.one .emp))⟩])
 (.fg [0, 1] (.seq (.ops false [⟨some 8, none, .mv (.t 0)⟩, ⟨some 9, none, .len (.t 8)⟩, ⟨some 10, none, .mv (.t 1)⟩, ⟨some 11, none, .len (.t 10)⟩, ⟨some 12, none, .max [(.t 9), (.t 11)]⟩, ⟨some 13, none, .bin .add (.t 12) (.c (.one (.lit (.int .i64 1))))⟩, ⟨some 14, none, .mk 1 [(.lit (.int .u32 0))] (.t 13) (.t 13)⟩, ⟨some 5, none, .mv (.t 14)⟩])
 (.fg [0, 1, 5] (.seq (.ops false [⟨some 6, none, .mv (.c (.one (.lit (.int .u64 0))))⟩])
 (.fg [0, 1, 5, 6] (.seq (.seq (.ops false [⟨some 15, none, .mv (.t 5)⟩, ⟨some 16, none, .len (.t 15)⟩, ⟨some 17, none, .mv (.c (.one (.lit (.int .i64 0))))⟩])
 (.fg [0, 1, 5, 6, 16, 17] (.block 0 (.loop (.seq (.ops false [⟨some 18, none, .bin .lss (.t 17) (.t 16)⟩])
 (.fg [0, 1, 5, 6, 16, 17, 18] (.seq (.cond (.t 18) .skip (.exit 0))
 (.fg [0, 1, 5, 6, 16, 17] (.seq (.block 1 (.seq (.ops false [⟨some 19, none, .mv (.t 17)⟩, ⟨some 7, none, .mv (.t 19)⟩])
 (.fg [0, 1, 5, 6, 7, 16, 17] (.seq (.ops false [⟨some 20, none, .mv (.t 6)⟩, ⟨some 21, none, .mv (.t 0)⟩, ⟨some 22, none, .mv (.t 7)⟩, ⟨some 23, none, .call f_integer_word [(.t 21), (.t 22)]⟩, ⟨some 24, none, .mv (.t 1)⟩, ⟨some 25, none, .mv (.t 7)⟩, ⟨some 26, none, .call f_integer_word [(.t 24), (.t 25)]⟩, ⟨some 27, none, .bin .add (.t 23) (.t 26)⟩, ⟨some 28, none, .bin .add (.t 20) (.t 27)⟩, ⟨some 6, none, .mv (.t 28)⟩])
 (.fg [0, 1, 5, 6, 7, 16, 17] (.seq (.ops false [⟨some 29, none, .mv (.t 5)⟩, ⟨some 30, none, .mv (.t 7)⟩, ⟨some 31, none, .mv (.t 6)⟩, ⟨some 32, none, .conv .u32 (.t 31)⟩, ⟨some 33, none, .idx 1 (.t 29) (.t 30)⟩, ⟨none, none, .st none 1 (.t 33) (.t 32)⟩])
 (.fg [0, 1, 5, 6, 16, 17] (.ops false [⟨some 34, none, .mv (.t 6)⟩, ⟨some 35, none, .bin .shr (.t 34) (.c (.one (.lit (.int .u64 32))))⟩, ⟨some 6, none, .mv (.t 35)⟩]))))))))
 (.fg [0, 1, 5, 6, 16, 17] (.ops false [⟨some 36, none, .bin .add (.t 17) (.c (.one (.lit (.int .i64 1))))⟩, ⟨some 17, none, .mv (.t 36)⟩])))))))))))
 (.fg [5] (.seq (.ops false [⟨some 37, none, .mv (.t 5)⟩, ⟨some 38, none, .call f_integer_trim [(.t 37)]⟩, ⟨some 4, none, .mv (.t 38)⟩])
 .ret)))))))))


theorem trim_sound (hΓ : Holds P Γ) {f : Nat} (hc : check P f = some (25, ac_integer_trim.strip, [.tmp 2])) : Sound P f (.dat false trim_G) := by
  refine sound_dat hc trim_good hΓ (fun args K hcl hfi hG => ?_)
  match args, hG with
  | [a], hG =>
    obtain ⟨l, rfl, hl, hlen, hK⟩ := hG
    refine ⟨by simp, ?_⟩
    simp only [go_sem, ↓reduceIte, Nat.reduceEqDiff, Nat.reduceAdd, Nat.reduceLT, Nat.reduceLeDiff, Int.reduceToNat, Nat.reducePow, Nat.reduceMul, reduceCtorEq, ac_integer_trim]
    intro hmax
    refine wpA_loop (fun n : Nat => ⟨mkV [(0, wsA l), (3, .one (.lit (.int .i64 n)))], mkH []⟩) (fun n => n ≤ l.length ∧ val (l.take n) = val l) id l.length ?_ ?_ ?_
    · exact weak_lit (by simp [okS, okV, okC, okL, okH, okB, okE, mkV_cons, mkV_nil, mkH_cons, mkH_nil, wsA, ws]) trivial
    · simp
    · rintro n ⟨hn, ht⟩
      simp only [go_sem, ↓reduceIte, Nat.reduceEqDiff, Nat.reduceAdd, Nat.reduceLT, Nat.reduceLeDiff, Int.reduceToNat, Nat.reducePow, Nat.reduceMul, reduceCtorEq]
      refine ⟨fun h => ⟨by omega, by omega, by omega, fun h0 => ⟨by omega, n - 1, weak_lit (by simp [okS, okV, okC, okL, okH, okB, okE, mkV_cons, mkV_nil, mkH_cons, mkH_nil, wsA, ws]; omega) trivial, ⟨by omega, ?_⟩, ?_⟩, fun h0 => ⟨fun h1 => by omega, fun _ => ⟨by omega, by simp; omega, ?_⟩⟩⟩, fun h => ⟨fun h1 => ?_, fun h1 => by omega⟩⟩
      · rw [show ((n : Int) - 1).toNat = n - 1 by omega] at h0
        have := take_succ l (n - 1)
        rw [show n - 1 + 1 = n by omega, h0, Nat.mul_zero, Nat.add_zero] at this
        rw [← this]; exact ht
      · simp only [id]; omega
      · rw [show ((n : Int) - 1).toNat = n - 1 by omega] at h0
        have := digs_val (WL_take hl n) (NZ_take h hn h0)
        rw [← this, ht]; exact hK
      · subst h1
        have : val l = 0 := by rw [← ht]; simp [val]
        rw [this, digs_zero] at hK; exact hK

theorem word_sound (hΓ : Holds P Γ) {f : Nat} (hc : check P f = some (14, ac_integer_word.strip, [.tmp 4])) : Sound P f (.dat true word_G) := by
  refine sound_dat hc word_good hΓ (fun args K hcl hfi hG => ?_)
  match args, hG with
  | [a, b], hG =>
    obtain ⟨l, rfl, hl, hG⟩ := hG
    obtain ⟨k, i, rfl, rfl, hi, hK⟩ := asInt_inv hG
    refine ⟨by simp, ?_⟩
    simp only [go_sem, ↓reduceIte, Nat.reduceEqDiff, Nat.reduceAdd, Nat.reduceLT, Nat.reduceLeDiff, Int.reduceToNat, Nat.reducePow, Nat.reduceMul, reduceCtorEq, ac_integer_word]
    intro hmax
    refine ⟨fun h => ⟨hi, by omega, ?_⟩, fun h => ?_⟩
    · have := WL_getD hl i.toNat
      rw [Nat.mod_eq_of_lt (by omega)]; exact hK
    · rw [List.getD_eq_getElem?_getD, List.getElem?_eq_none (by omega)] at hK; exact hK

theorem plus_sound (hΓ : Holds P Γ) {f fw ft : Nat} (hw : Γ fw = .dat true word_G) (ht : Γ ft = .dat false trim_G) (hc : check P f = some (39, (ac_integer_plus fw ft).strip, [.tmp 4])) : Sound P f (.dat false plus_G) := by
  refine sound_dat hc plus_good hΓ (fun args K hcl hfi hG => ?_)
  match args, hG with
  | [a, b], hG =>
    obtain ⟨x, rfl, hx, y, rfl, hy, hxl, hyl, hK⟩ := hG
    refine ⟨by simp, ?_⟩
    simp only [go_sem, ↓reduceIte, Nat.reduceEqDiff, Nat.reduceAdd, Nat.reduceLT, Nat.reduceLeDiff, Int.reduceToNat, Nat.reducePow, Nat.reduceMul, reduceCtorEq, ac_integer_plus, hw, ht]
    intro h1 h2
    refine ⟨by omega, by omega, fun hN => ?_⟩
    generalize hNN : max x.length y.length + 1 = N at hN
    refine wpA_loop (fun p : List Nat × Nat => ⟨mkV [(0, wsA x), (1, wsA y), (5, .one (.own 14 1 1 0 N)), (6, .one (.lit (.int .u64 p.2))), (16, .one (.lit (.int .i64 N))), (17, .one (.lit (.int .i64 p.1.length)))], mkH [(14, ⟨1, some ⟨(p.1 ++ List.replicate (N - p.1.length) 0).map wc, 1, true⟩⟩)]⟩)
      (fun p => p.1.length ≤ N ∧ WL p.1 ∧ p.2 ≤ 1 ∧ val p.1 + 4294967296 ^ p.1.length * p.2 = val (x.take p.1.length) + val (y.take p.1.length)) (fun p => N - p.1.length) ([], 0) ?_ ?_ ?_
    · exact weak_lit (by simp [okS, okV, okC, okL, okH, okB, okE, mkV_cons, mkV_nil, mkH_cons, mkH_nil, wsA, ws]) (okH_1 (by simp))
    · simp [WL_nil, val]
    · rintro ⟨o, c⟩ ⟨hoN, ho, hc1, hval⟩
      simp only at hoN ho hc1 hval
      have hlen : (o ++ List.replicate (N - o.length) 0).length = N := by simp; omega
      simp only [go_sem, ↓reduceIte, Nat.reduceEqDiff, Nat.reduceAdd, Nat.reduceLT, Nat.reduceLeDiff, Int.reduceToNat, Nat.reducePow, Nat.reduceMul, reduceCtorEq, hw, ht, hlen]
      refine ⟨fun hlt => ⟨hx, hy, hlt, hlt, by omega, by omega, ?_⟩, fun hge => ?_⟩
      · have g1 := WL_getD hx o.length
        have g2 := WL_getD hy o.length
        rw [Nat.mod_eq_of_lt (show x.getD o.length 0 + y.getD o.length 0 < 18446744073709551616 by omega), Nat.mod_eq_of_lt (show c + (x.getD o.length 0 + y.getD o.length 0) < 18446744073709551616 by omega)]
        generalize hs : c + (x.getD o.length 0 + y.getD o.length 0) = s
        refine ⟨(o ++ [s % 4294967296], s / 4294967296), weak_lit (by simp [okS, okV, okC, okL, okH, okB, okE, mkV_cons, mkV_nil, mkH_cons, mkH_nil, wsA, ws]) (okH_1 ?_), ⟨by simp; omega, WL_append.2 ⟨ho, WL_cons.2 ⟨Nat.mod_lt _ (by omega), WL_nil⟩⟩, by simp only; omega, ?_⟩, by simp; omega⟩
        · rw [show N - o.length = N - (o.length + 1) + 1 by omega, rep_set]; simp
        · simp only [List.length_append, List.length_cons, List.length_nil, Nat.zero_add, take_succ, val_append, val_cons, val_nil, Nat.mul_zero, Nat.add_zero, Nat.pow_succ]
          rw [Nat.mul_assoc, Nat.add_assoc, ← Nat.mul_add, Nat.mod_add_div, ← hs, Nat.mul_add, ← Nat.add_assoc, hval, Nat.mul_add]
          omega
      · have e : o.length = N := by omega
        simp only [e, Nat.sub_self, List.replicate_zero, List.append_nil, Nat.le_refl, if_true, onWs_e]
        have hv : val o = val x + val y := by
          rw [e, take_all (by omega), take_all (by omega)] at hval
          exact sum_fits hx hy (by omega) (by omega) (by omega) hval
        refine ⟨ho, by omega, ?_⟩
        rw [hv]; exact hK

end Go.Abs
end

/-
  The program's lists of words: less, compare, short.
-/
section
set_option linter.unusedVariables false
set_option linter.unusedSimpArgs false
set_option maxRecDepth 100000
namespace Go.Abs
open Go.Num

variable {P : Program} {Γ : Nat → Spec}

/-- linkwork/integer.less (38) [.tmp 4] -/
def ac_integer_less (f_integer_word f_integer_trim : Nat) : AC := (.seq (.ops false [⟨some 4, none, .mv (.c (.one .emp))⟩])
 (.fg [0, 1] (.seq (.ops false [⟨some 9, none, .mv (.t 0)⟩, ⟨some 10, none, .len (.t 9)⟩, ⟨some 11, none, .mk 1 [(.lit (.int .u32 0))] (.t 10) (.t 10)⟩, ⟨some 5, none, .mv (.t 11)⟩])
 (.fg [0, 1, 5] (.seq (.ops false [⟨some 6, none, .mv (.c (.one (.lit (.int .u64 0))))⟩])
 (.fg [0, 1, 5, 6] (.seq (.seq (.ops false [⟨some 12, none, .mv (.t 5)⟩, ⟨some 13, none, .len (.t 12)⟩, ⟨some 14, none, .mv (.c (.one (.lit (.int .i64 0))))⟩])
 (.fg [0, 1, 5, 6, 13, 14] (.block 0 (.loop (.seq (.ops false [⟨some 15, none, .bin .lss (.t 14) (.t 13)⟩])
 (.fg [0, 1, 5, 6, 13, 14, 15] (.seq (.cond (.t 15) .skip (.exit 0))
 (.fg [0, 1, 5, 6, 13, 14] (.seq (.block 1 (.seq (.ops false [⟨some 16, none, .mv (.t 14)⟩, ⟨some 7, none, .mv (.t 16)⟩])
 (.fg [0, 1, 5, 6, 7, 13, 14] (.seq (.ops true [⟨some 17, none, .mv (.t 0)⟩, ⟨some 18, none, .mv (.t 7)⟩, ⟨some 19, none, .idx 1 (.t 17) (.t 18)⟩, ⟨some 20, none, .ld none 1 false (.t 19)⟩, ⟨some 21, none, .conv .u64 (.t 20)⟩, ⟨some 22, none, .mv (.t 1)⟩, ⟨some 23, none, .mv (.t 7)⟩, ⟨some 24, none, .call f_integer_word [(.t 22), (.t 23)]⟩, ⟨some 25, none, .bin .sub (.t 21) (.t 24)⟩, ⟨some 26, none, .mv (.t 6)⟩, ⟨some 27, none, .bin .sub (.t 25) (.t 26)⟩, ⟨some 8, none, .mv (.t 27)⟩])
 (.fg [0, 1, 5, 7, 8, 13, 14] (.seq (.ops false [⟨some 28, none, .mv (.t 5)⟩, ⟨some 29, none, .mv (.t 7)⟩, ⟨some 30, none, .mv (.t 8)⟩, ⟨some 31, none, .conv .u32 (.t 30)⟩, ⟨some 32, none, .idx 1 (.t 28) (.t 29)⟩, ⟨none, none, .st none 1 (.t 32) (.t 31)⟩])
 (.fg [0, 1, 5, 8, 13, 14] (.ops false [⟨some 33, none, .mv (.t 8)⟩, ⟨some 34, none, .bin .shr (.t 33) (.c (.one (.lit (.int .u64 63))))⟩, ⟨some 6, none, .mv (.t 34)⟩]))))))))
 (.fg [0, 1, 5, 6, 13, 14] (.ops false [⟨some 35, none, .bin .add (.t 14) (.c (.one (.lit (.int .i64 1))))⟩, ⟨some 14, none, .mv (.t 35)⟩])))))))))))
 (.fg [5] (.seq (.ops false [⟨some 36, none, .mv (.t 5)⟩, ⟨some 37, none, .call f_integer_trim [(.t 36)]⟩, ⟨some 4, none, .mv (.t 37)⟩])
 .ret)))))))))

/-- linkwork/integer.compare (41) [.tmp 4] -/
def ac_integer_compare : AC := (.seq (.ops false [⟨some 4, none, .mv (.c (.one (.lit (.int .i64 0))))⟩])
 (.fg [0, 1] (.seq (.seq (.ops false [⟨some 6, none, .mv (.t 0)⟩, ⟨some 7, none, .len (.t 6)⟩, ⟨some 8, none, .mv (.t 1)⟩, ⟨some 9, none, .len (.t 8)⟩, ⟨some 10, none, .bin .neq (.t 7) (.t 9)⟩])
 (.fg [0, 1, 10] (.cond (.t 10) (.seq (.seq (.ops false [⟨some 11, none, .mv (.t 0)⟩, ⟨some 12, none, .len (.t 11)⟩, ⟨some 13, none, .mv (.t 1)⟩, ⟨some 14, none, .len (.t 13)⟩, ⟨some 15, none, .bin .lss (.t 12) (.t 14)⟩])
 (.fg [15] (.cond (.t 15) (.seq (.ops false [⟨some 4, none, .mv (.c (.one (.lit (.int .i64 (-1)))))⟩])
 .ret) .skip)))
 (.fg [] (.seq (.ops false [⟨some 4, none, .mv (.c (.one (.lit (.int .i64 1))))⟩])
 .ret))) .skip)))
 (.fg [0, 1] (.seq (.seq (.ops false [⟨some 16, none, .mv (.t 0)⟩, ⟨some 17, none, .len (.t 16)⟩, ⟨some 18, none, .bin .sub (.t 17) (.c (.one (.lit (.int .i64 1))))⟩, ⟨some 5, none, .mv (.t 18)⟩])
 (.fg [0, 1, 5] (.block 0 (.loop (.seq (.seq (.ops false [⟨some 19, none, .mv (.t 5)⟩, ⟨some 20, none, .bin .geq (.t 19) (.c (.one (.lit (.int .i64 0))))⟩])
 (.fg [0, 1, 5, 20] (.cond (.t 20) .skip (.exit 0))))
 (.fg [0, 1, 5] (.seq (.block 1 (.seq (.ops true [⟨some 23, none, .mv (.t 0)⟩, ⟨some 24, none, .mv (.t 5)⟩, ⟨some 25, none, .idx 1 (.t 23) (.t 24)⟩, ⟨some 26, none, .ld none 1 false (.t 25)⟩, ⟨some 27, none, .mv (.t 1)⟩, ⟨some 28, none, .mv (.t 5)⟩, ⟨some 29, none, .idx 1 (.t 27) (.t 28)⟩, ⟨some 30, none, .ld none 1 false (.t 29)⟩, ⟨some 31, none, .bin .neq (.t 26) (.t 30)⟩])
 (.fg [0, 1, 5, 31] (.cond (.t 31) (.seq (.seq (.ops true [⟨some 32, none, .mv (.t 0)⟩, ⟨some 33, none, .mv (.t 5)⟩, ⟨some 34, none, .idx 1 (.t 32) (.t 33)⟩, ⟨some 35, none, .ld none 1 false (.t 34)⟩, ⟨some 36, none, .mv (.t 1)⟩, ⟨some 37, none, .mv (.t 5)⟩, ⟨some 38, none, .idx 1 (.t 36) (.t 37)⟩, ⟨some 39, none, .ld none 1 false (.t 38)⟩, ⟨some 40, none, .bin .lss (.t 35) (.t 39)⟩])
 (.fg [40] (.cond (.t 40) (.seq (.ops false [⟨some 4, none, .mv (.c (.one (.lit (.int .i64 (-1)))))⟩])
 .ret) .skip)))
 (.fg [] (.seq (.ops false [⟨some 4, none, .mv (.c (.one (.lit (.int .i64 1))))⟩])
 .ret))) .skip))))
 (.fg [0, 1, 5] (.ops false [⟨some 21, none, .mv (.t 5)⟩, ⟨some 22, none, .bin .sub (.t 21) (.c (.one (.lit (.int .i64 1))))⟩, ⟨some 5, none, .mv (.t 22)⟩])))))))))
 (.fg [] (.seq (.ops false [⟨some 4, none, .mv (.c (.one (.lit (.int .i64 0))))⟩])
 .ret)))))))

/-- linkwork/integer.short (43) [.tmp 4, .tmp 5] -/
def ac_integer_short (f_integer_trim : Nat) : AC := (.seq (.ops false [⟨some 4, none, .mv (.c (.one .emp))⟩, ⟨some 5, none, .mv (.c (.one (.lit (.int .u32 0))))⟩])
 (.fg [0, 1] (.seq (.ops false [⟨some 9, none, .mv (.t 0)⟩, ⟨some 10, none, .len (.t 9)⟩, ⟨some 11, none, .mk 1 [(.lit (.int .u32 0))] (.t 10) (.t 10)⟩, ⟨some 6, none, .mv (.t 11)⟩])
 (.fg [0, 1, 6] (.seq (.ops false [⟨some 7, none, .mv (.c (.one (.lit (.int .u64 0))))⟩])
 (.fg [0, 1, 6, 7] (.seq (.seq (.ops false [⟨some 12, none, .mv (.t 0)⟩, ⟨some 13, none, .len (.t 12)⟩, ⟨some 14, none, .bin .sub (.t 13) (.c (.one (.lit (.int .i64 1))))⟩, ⟨some 8, none, .mv (.t 14)⟩])
 (.fg [0, 1, 6, 7, 8] (.block 0 (.loop (.seq (.seq (.ops false [⟨some 15, none, .mv (.t 8)⟩, ⟨some 16, none, .bin .geq (.t 15) (.c (.one (.lit (.int .i64 0))))⟩])
 (.fg [0, 1, 6, 7, 8, 16] (.cond (.t 16) .skip (.exit 0))))
 (.fg [0, 1, 6, 7, 8] (.seq (.block 1 (.seq (.ops false [⟨some 19, none, .mv (.t 7)⟩, ⟨some 20, none, .bin .shl (.t 19) (.c (.one (.lit (.int .u64 32))))⟩, ⟨some 21, none, .mv (.t 0)⟩, ⟨some 22, none, .mv (.t 8)⟩, ⟨some 23, none, .idx 1 (.t 21) (.t 22)⟩, ⟨some 24, none, .ld none 1 false (.t 23)⟩, ⟨some 25, none, .conv .u64 (.t 24)⟩, ⟨some 26, none, .bin .or (.t 20) (.t 25)⟩, ⟨some 7, none, .mv (.t 26)⟩])
 (.fg [0, 1, 6, 7, 8] (.seq (.ops false [⟨some 27, none, .mv (.t 6)⟩, ⟨some 28, none, .mv (.t 8)⟩, ⟨some 29, none, .mv (.t 7)⟩, ⟨some 30, none, .mv (.t 1)⟩, ⟨some 31, none, .conv .u64 (.t 30)⟩, ⟨some 32, none, .bin .quo (.t 29) (.t 31)⟩, ⟨some 33, none, .conv .u32 (.t 32)⟩, ⟨some 34, none, .idx 1 (.t 27) (.t 28)⟩, ⟨none, none, .st none 1 (.t 34) (.t 33)⟩])
 (.fg [0, 1, 6, 7, 8] (.ops false [⟨some 35, none, .mv (.t 7)⟩, ⟨some 36, none, .mv (.t 1)⟩, ⟨some 37, none, .conv .u64 (.t 36)⟩, ⟨some 38, none, .bin .rem (.t 35) (.t 37)⟩, ⟨some 7, none, .mv (.t 38)⟩]))))))
 (.fg [0, 1, 6, 7, 8] (.ops false [⟨some 17, none, .mv (.t 8)⟩, ⟨some 18, none, .bin .sub (.t 17) (.c (.one (.lit (.int .i64 1))))⟩, ⟨some 8, none, .mv (.t 18)⟩])))))))))
 (.fg [6, 7] (.seq (.ops false [⟨some 39, none, .mv (.t 6)⟩, ⟨some 40, none, .call f_integer_trim [(.t 39)]⟩, ⟨some 41, none, .mv (.t 7)⟩, ⟨some 42, none, .conv .u32 (.t 41)⟩, ⟨some 4, none, .mv (.t 40)⟩, ⟨some 5, none, .mv (.t 42)⟩])
 .ret)))))))))


theorem less_sound (hΓ : Holds P Γ) {f fw ft : Nat} (hw : Γ fw = .dat true word_G) (ht : Γ ft = .dat false trim_G) (hc : check P f = some (38, (ac_integer_less fw ft).strip, [.tmp 4])) : Sound P f (.dat false less_G) := by
  refine sound_dat hc less_good hΓ (fun args K hcl hfi hG => ?_)
  match args, hG with
  | [a, b], hG =>
    obtain ⟨x, rfl, hx, y, rfl, hy, hxl, hle, hK⟩ := hG
    refine ⟨by simp, ?_⟩
    simp only [go_sem, ↓reduceIte, Nat.reduceEqDiff, Nat.reduceAdd, Nat.reduceLT, Nat.reduceLeDiff, Int.reduceToNat, Nat.reducePow, Nat.reduceMul, reduceCtorEq, ac_integer_less, hw, ht]
    intro h1
    refine ⟨by omega, fun _ => ?_⟩
    generalize hN : x.length = N at h1 hxl
    refine wpA_loop (fun p : List Nat × Nat => ⟨mkV [(0, wsA x), (1, wsA y), (5, .one (.own 11 1 1 0 N)), (6, .one (.lit (.int .u64 p.2))), (13, .one (.lit (.int .i64 N))), (14, .one (.lit (.int .i64 p.1.length)))], mkH [(11, ⟨1, some ⟨(p.1 ++ List.replicate (N - p.1.length) 0).map wc, 1, true⟩⟩)]⟩)
      (fun p => p.1.length ≤ N ∧ WL p.1 ∧ p.2 ≤ 1 ∧ val p.1 + val (y.take p.1.length) = val (x.take p.1.length) + 4294967296 ^ p.1.length * p.2) (fun p => N - p.1.length) ([], 0) ?_ ?_ ?_
    · exact weak_lit (by simp [okS, okV, okC, okL, okH, okB, okE, mkV_cons, mkV_nil, mkH_cons, mkH_nil, wsA, ws]) (okH_1 (by simp))
    · simp [WL_nil, val]
    · rintro ⟨o, c⟩ ⟨hoN, ho, hc1, hval⟩
      simp only at hoN ho hc1 hval
      have hlen : (o ++ List.replicate (N - o.length) 0).length = N := by simp; omega
      simp only [go_sem, ↓reduceIte, Nat.reduceEqDiff, Nat.reduceAdd, Nat.reduceLT, Nat.reduceLeDiff, Int.reduceToNat, Nat.reducePow, Nat.reduceMul, reduceCtorEq, hw, ht, hlen]
      refine ⟨fun hlt => ⟨by omega, hy, hlt, hlt, by omega, by omega, ?_⟩, fun hge => ?_⟩
      · have g1 := WL_getD hx o.length
        have g2 := WL_getD hy o.length
        rw [Nat.mod_eq_of_lt (show x.getD o.length 0 < 18446744073709551616 by omega)]
        obtain ⟨s1, s2⟩ := sub_step g1 g2 hc1
        generalize sub64 (sub64 (x.getD o.length 0) (y.getD o.length 0)) c = s at s1 s2
        refine ⟨(o ++ [s % 4294967296], s / 9223372036854775808), weak_lit (by simp [okS, okV, okC, okL, okH, okB, okE, mkV_cons, mkV_nil, mkH_cons, mkH_nil, wsA, ws]) (okH_1 ?_), ⟨by simp; omega, WL_append.2 ⟨ho, WL_cons.2 ⟨Nat.mod_lt _ (by omega), WL_nil⟩⟩, s2, ?_⟩, by simp; omega⟩
        · rw [show N - o.length = N - (o.length + 1) + 1 by omega, rep_set]; simp
        · simp only [List.length_append, List.length_cons, List.length_nil, Nat.zero_add, take_succ, val_append, val_cons, val_nil, Nat.mul_zero, Nat.add_zero, Nat.pow_succ]
          exact less_aux hval s1
      · have e : o.length = N := by omega
        have hv := less_end ho hx (by omega) hle hval
        simp only [e, Nat.sub_self, List.replicate_zero, List.append_nil]
        refine ⟨ho, by omega, ?_⟩
        rw [hv]; exact hK

theorem compare_sound (hΓ : Holds P Γ) {f : Nat} (hc : check P f = some (41, ac_integer_compare.strip, [.tmp 4])) : Sound P f (.dat false compare_G) := by
  refine sound_dat hc compare_good hΓ (fun args K hcl hfi hG => ?_)
  match args, hG with
  | [a, b], hG =>
    obtain ⟨x, rfl, hx, y, rfl, hy, hzx, hzy, hK⟩ := hG
    refine ⟨by simp, ?_⟩
    simp only [go_sem, ↓reduceIte, Nat.reduceEqDiff, Nat.reduceAdd, Nat.reduceLT, Nat.reduceLeDiff, Int.reduceToNat, Nat.reducePow, Nat.reduceMul, reduceCtorEq, ac_integer_compare]
    intro h1 h2
    refine ⟨fun hl _ => ⟨by omega, ?_⟩, fun hne _ _ => ⟨fun hlt => ?_, fun hge => ?_⟩⟩
    rotate_left
    · rw [ordN_lt (lt_of_len hx hzy hlt)] at hK; exact hK
    · rw [ordN_gt (lt_of_len hy hzx (by omega))] at hK; exact hK
    refine wpA_loop (fun n : Nat => ⟨mkV [(0, wsA x), (1, wsA y), (5, .one (.lit (.int .i64 ((n : Int) - 1))))], mkH []⟩) (fun n => n ≤ x.length ∧ x.drop n = y.drop n) id x.length ?_ ?_ ?_
    · exact weak_lit (by simp [okS, okV, okC, okL, okH, okB, okE, mkV_cons, mkV_nil, mkH_cons, mkH_nil, wsA, ws]) trivial
    · simp [hl]
    · rintro n ⟨hn, hd⟩
      simp only [go_sem, ↓reduceIte, Nat.reduceEqDiff, Nat.reduceAdd, Nat.reduceLT, Nat.reduceLeDiff, Int.reduceToNat, Nat.reducePow, Nat.reduceMul, reduceCtorEq]
      refine ⟨fun h => ⟨by omega, by omega, by omega, by omega, fun he => ⟨by omega, n - 1, weak_lit (by simp [okS, okV, okC, okL, okH, okB, okE, mkV_cons, mkV_nil, mkH_cons, mkH_nil, wsA, ws]; omega) trivial, ⟨by omega, ?_⟩, by simp only [id]; omega⟩, fun hne => ?_⟩, fun h => ?_⟩
      · rw [show ((n : Int) - 1).toNat = n - 1 by omega] at he
        rw [List.getD_eq_getElem?_getD, List.getD_eq_getElem?_getD, List.getElem?_eq_getElem (by omega), List.getElem?_eq_getElem (by omega)] at he
        have e1 := List.getElem_cons_drop (as := x) (i := n - 1) (by omega)
        have e2 := List.getElem_cons_drop (as := y) (i := n - 1) (by omega)
        rw [show n - 1 + 1 = n by omega] at e1 e2
        rw [← e1, ← e2, hd]
        simp only [Option.getD_some] at he
        rw [he]
      · rw [show ((n : Int) - 1).toNat = n - 1 by omega] at hne ⊢
        refine ⟨by omega, by omega, by omega, by omega, fun hlt => ?_, fun hge => ?_⟩
        · rw [ordN_lt (cmp_lt (i := n - 1) hx hl (by omega) (by rw [show n - 1 + 1 = n by omega]; exact hd) hlt)] at hK; exact hK
        · rw [ordN_gt (cmp_lt (i := n - 1) hy hl.symm (by omega) (by rw [show n - 1 + 1 = n by omega]; exact hd.symm) (by omega))] at hK; exact hK
      · have : n = 0 := by omega
        subst this
        simp only [List.drop_zero] at hd
        rw [hd, ordN_eq] at hK; exact hK

theorem short_sound (hΓ : Holds P Γ) {f ft : Nat} (ht : Γ ft = .dat false trim_G) (hc : check P f = some (43, (ac_integer_short ft).strip, [.tmp 4, .tmp 5])) : Sound P f (.dat false short_G) := by
  refine sound_dat hc short_good hΓ (fun args K hcl hfi hG => ?_)
  match args, hG with
  | [a, b], hG =>
    obtain ⟨x, rfl, hx, hG⟩ := hG
    obtain ⟨k, m, rfl, rfl, hm, hmB, hxl, hK⟩ := asInt_inv hG
    obtain ⟨m, rfl⟩ : ∃ n : Nat, m = n := ⟨m.toNat, by omega⟩
    simp only [Int.toNat_natCast] at hK
    refine ⟨by simp, ?_⟩
    simp only [go_sem, ↓reduceIte, Nat.reduceEqDiff, Nat.reduceAdd, Nat.reduceLT, Nat.reduceLeDiff, Int.reduceToNat, Nat.reducePow, Nat.reduceMul, reduceCtorEq, ac_integer_short, ht]
    intro h1
    refine ⟨hxl, fun _ => ⟨by omega, ?_⟩⟩
    refine wpA_loop (fun p : List Nat × Nat => ⟨mkV [(0, wsA x), (1, .one (.lit (.int .u32 m))), (6, .one (.own 11 1 1 0 x.length)), (7, .one (.lit (.int .u64 p.2))), (8, .one (.lit (.int .i64 ((x.length : Int) - p.1.length - 1))))], mkH [(11, ⟨1, some ⟨(List.replicate (x.length - p.1.length) 0 ++ p.1).map wc, 1, true⟩⟩)]⟩)
      (fun p => p.1.length ≤ x.length ∧ WL p.1 ∧ p.2 < m ∧ val p.1 * m + p.2 = val (x.drop (x.length - p.1.length))) (fun p => x.length - p.1.length) ([], 0) ?_ ?_ ?_
    · exact weak_lit (by simp [okS, okV, okC, okL, okH, okB, okE, mkV_cons, mkV_nil, mkH_cons, mkH_nil, wsA, ws]) (okH_1 (by simp))
    · simp [WL_nil, val]; omega
    · rintro ⟨q, r⟩ ⟨hq, hqw, hr, hval⟩
      simp only at hq hqw hr hval
      have hlen : (List.replicate (x.length - q.length) 0 ++ q).length = x.length := by simp; omega
      simp only [go_sem, ↓reduceIte, Nat.reduceEqDiff, Nat.reduceAdd, Nat.reduceLT, Nat.reduceLeDiff, Int.reduceToNat, Nat.reducePow, Nat.reduceMul, reduceCtorEq, ht, hlen]
      refine ⟨fun h => ?_, fun h => ?_⟩
      · obtain ⟨n, hn⟩ : ∃ n, n = x.length - q.length := ⟨_, rfl⟩
        have hn0 : 0 < n := by omega
        have hi : ((x.length : Int) - q.length - 1).toNat = n - 1 := by omega
        have g1 := WL_getD hx (n - 1)
        have hd := drop_cons x hn0 (by omega)
        obtain ⟨s1, s2⟩ := short_lt (by omega) hr g1
        have s3 := short_aux (B := 4294967296) (a := x.getD (n - 1) 0) (by omega) (hn ▸ hval)
        have e1 : r * 4294967296 % 18446744073709551616 = r * 4294967296 := by omega
        have e2 : x.getD (n - 1) 0 % 18446744073709551616 = x.getD (n - 1) 0 := by omega
        have e3 : m % 18446744073709551616 = m := by omega
        rw [hi, ← hn, e1, e2, e3, or32 _ _ g1]
        generalize hs : r * 4294967296 + x.getD (n - 1) 0 = s at s1 s2 s3
        rw [Nat.mod_eq_of_lt (show s / m < 18446744073709551616 by omega), Nat.mod_eq_of_lt s1]
        have hm0 : s % m < m := Nat.mod_lt _ (by omega)
        refine ⟨⟨rfl, by omega⟩, by omega, by omega, ⟨rfl, by omega, by omega⟩, by omega, ⟨by omega, by omega⟩, by omega, by omega, by omega, (s / m :: q, s % m), weak_lit (by simp [okS, okV, okC, okL, okH, okB, okE, mkV_cons, mkV_nil, mkH_cons, mkH_nil, wsA, ws]; omega) (okH_1 ?_), ⟨by simp; omega, WL_cons.2 ⟨s1, hqw⟩, hm0, ?_⟩, by simp; omega⟩
        · simp only [List.length_cons]
          rw [rep_set_low q _ hn0, show x.length - (q.length + 1) = n - 1 by omega]
        · rw [val_cons, List.length_cons, show x.length - (q.length + 1) = n - 1 by omega, hd]; exact s3
      · have e : x.length - q.length = 0 := by omega
        simp only [e, List.replicate_zero, List.nil_append, List.drop_zero] at hval ⊢
        have h1 := Nat.div_mod_unique (show 0 < m by omega) (a := val x) (c := r) (d := val q)
        obtain ⟨h2, h3⟩ := h1.2 ⟨by rw [← hval, Nat.mul_comm m, Nat.add_comm], hr⟩
        rw [h2, h3] at hK
        refine ⟨hqw, by omega, ?_⟩
        rw [Nat.mod_eq_of_lt (by omega)]; exact hK

end Go.Abs
end

/-
  The program's lists of words: up, down, times.
-/
section
set_option linter.unusedVariables false
set_option linter.unusedSimpArgs false
set_option maxRecDepth 100000
namespace Go.Abs
open Go.Num

variable {P : Program} {Γ : Nat → Spec}

/-- linkwork/integer.up (41) [.tmp 4] -/
def ac_integer_up : AC := (.seq (.ops false [⟨some 4, none, .mv (.c (.one .emp))⟩])
 (.fg [0, 1] (.seq (.ops false [⟨some 9, none, .mv (.t 0)⟩, ⟨some 10, none, .len (.t 9)⟩, ⟨some 11, none, .bin .add (.t 10) (.c (.one (.lit (.int .i64 1))))⟩, ⟨some 12, none, .mk 1 [(.lit (.int .u32 0))] (.t 11) (.t 11)⟩, ⟨some 5, none, .mv (.t 12)⟩])
 (.fg [0, 1, 5] (.seq (.seq (.ops false [⟨some 13, none, .mv (.t 0)⟩, ⟨some 14, none, .len (.t 13)⟩, ⟨some 15, none, .mv (.c (.one (.lit (.int .i64 0))))⟩])
 (.fg [1, 5, 13, 14, 15] (.block 0 (.loop (.seq (.ops false [⟨some 16, none, .bin .lss (.t 15) (.t 14)⟩])
 (.fg [1, 5, 13, 14, 15, 16] (.seq (.cond (.t 16) .skip (.exit 0))
 (.fg [1, 5, 13, 14, 15] (.seq (.block 1 (.seq (.ops false [⟨some 17, none, .mv (.t 15)⟩, ⟨some 18, none, .idx 1 (.t 13) (.t 15)⟩, ⟨some 19, none, .ld none 1 false (.t 18)⟩, ⟨some 6, none, .mv (.t 17)⟩, ⟨some 7, none, .mv (.t 19)⟩])
 (.fg [1, 5, 6, 7, 13, 14, 15] (.seq (.ops false [⟨some 20, none, .mv (.t 7)⟩, ⟨some 21, none, .conv .u64 (.t 20)⟩, ⟨some 22, none, .mv (.t 1)⟩, ⟨some 23, none, .bin .shl (.t 21) (.t 22)⟩, ⟨some 8, none, .mv (.t 23)⟩])
 (.fg [1, 5, 6, 8, 13, 14, 15] (.seq (.ops false [⟨some 24, none, .mv (.t 5)⟩, ⟨some 25, none, .mv (.t 6)⟩, ⟨some 26, none, .idx 1 (.t 24) (.t 25)⟩, ⟨some 27, none, .ld none 1 false (.t 26)⟩, ⟨some 28, none, .mv (.t 8)⟩, ⟨some 29, none, .conv .u32 (.t 28)⟩, ⟨some 30, none, .bin .or (.t 27) (.t 29)⟩, ⟨some 31, none, .idx 1 (.t 24) (.t 25)⟩, ⟨none, none, .st none 1 (.t 31) (.t 30)⟩])
 (.fg [1, 5, 6, 8, 13, 14, 15] (.ops false [⟨some 32, none, .mv (.t 5)⟩, ⟨some 33, none, .mv (.t 6)⟩, ⟨some 34, none, .bin .add (.t 33) (.c (.one (.lit (.int .i64 1))))⟩, ⟨some 35, none, .mv (.t 8)⟩, ⟨some 36, none, .bin .shr (.t 35) (.c (.one (.lit (.int .u64 32))))⟩, ⟨some 37, none, .conv .u32 (.t 36)⟩, ⟨some 38, none, .idx 1 (.t 32) (.t 34)⟩, ⟨none, none, .st none 1 (.t 38) (.t 37)⟩]))))))))
 (.fg [1, 5, 13, 14, 15] (.ops false [⟨some 39, none, .bin .add (.t 15) (.c (.one (.lit (.int .i64 1))))⟩, ⟨some 15, none, .mv (.t 39)⟩])))))))))))
 (.fg [5] (.seq (.ops false [⟨some 40, none, .mv (.t 5)⟩, ⟨some 4, none, .mv (.t 40)⟩])
 .ret)))))))

/-- linkwork/integer.down (35) [.tmp 4] -/
def ac_integer_down (f_integer_word f_integer_trim : Nat) : AC := (.seq (.ops false [⟨some 4, none, .mv (.c (.one .emp))⟩])
 (.fg [0, 1] (.seq (.ops false [⟨some 7, none, .mv (.t 0)⟩, ⟨some 8, none, .len (.t 7)⟩, ⟨some 9, none, .mk 1 [(.lit (.int .u32 0))] (.t 8) (.t 8)⟩, ⟨some 5, none, .mv (.t 9)⟩])
 (.fg [0, 1, 5] (.seq (.seq (.ops false [⟨some 10, none, .mv (.t 0)⟩, ⟨some 11, none, .len (.t 10)⟩, ⟨some 12, none, .mv (.c (.one (.lit (.int .i64 0))))⟩])
 (.fg [0, 1, 5, 11, 12] (.block 0 (.loop (.seq (.ops false [⟨some 13, none, .bin .lss (.t 12) (.t 11)⟩])
 (.fg [0, 1, 5, 11, 12, 13] (.seq (.cond (.t 13) .skip (.exit 0))
 (.fg [0, 1, 5, 11, 12] (.seq (.block 1 (.seq (.ops false [⟨some 14, none, .mv (.t 12)⟩, ⟨some 6, none, .mv (.t 14)⟩])
 (.fg [0, 1, 5, 6, 11, 12] (.ops true [⟨some 15, none, .mv (.t 5)⟩, ⟨some 16, none, .mv (.t 6)⟩, ⟨some 17, none, .mv (.t 0)⟩, ⟨some 18, none, .mv (.t 6)⟩, ⟨some 19, none, .idx 1 (.t 17) (.t 18)⟩, ⟨some 20, none, .ld none 1 false (.t 19)⟩, ⟨some 21, none, .conv .u64 (.t 20)⟩, ⟨some 22, none, .mv (.t 0)⟩, ⟨some 23, none, .mv (.t 6)⟩, ⟨some 24, none, .bin .add (.t 23) (.c (.one (.lit (.int .i64 1))))⟩, ⟨some 25, none, .call f_integer_word [(.t 22), (.t 24)]⟩, ⟨some 26, none, .bin .shl (.t 25) (.c (.one (.lit (.int .u64 32))))⟩, ⟨some 27, none, .bin .or (.t 21) (.t 26)⟩, ⟨some 28, none, .mv (.t 1)⟩, ⟨some 29, none, .bin .shr (.t 27) (.t 28)⟩, ⟨some 30, none, .conv .u32 (.t 29)⟩, ⟨some 31, none, .idx 1 (.t 15) (.t 16)⟩, ⟨none, none, .st none 1 (.t 31) (.t 30)⟩]))))
 (.fg [0, 1, 5, 11, 12] (.ops false [⟨some 32, none, .bin .add (.t 12) (.c (.one (.lit (.int .i64 1))))⟩, ⟨some 12, none, .mv (.t 32)⟩])))))))))))
 (.fg [5] (.seq (.ops false [⟨some 33, none, .mv (.t 5)⟩, ⟨some 34, none, .call f_integer_trim [(.t 33)]⟩, ⟨some 4, none, .mv (.t 34)⟩])
 .ret)))))))

/-- linkwork/integer.times (67) [.tmp 4] -/
def ac_integer_times (f_integer_trim : Nat) : AC := (.seq (.ops false [⟨some 4, none, .mv (.c (.one .emp))⟩])
 (.fg [0, 1] (.seq (.ops false [⟨some 11, none, .mv (.t 0)⟩, ⟨some 12, none, .len (.t 11)⟩, ⟨some 13, none, .mv (.t 1)⟩, ⟨some 14, none, .len (.t 13)⟩, ⟨some 15, none, .bin .add (.t 12) (.t 14)⟩, ⟨some 16, none, .mk 1 [(.lit (.int .u32 0))] (.t 15) (.t 15)⟩, ⟨some 5, none, .mv (.t 16)⟩])
 (.fg [0, 1, 5] (.seq (.seq (.ops false [⟨some 17, none, .mv (.t 0)⟩, ⟨some 18, none, .len (.t 17)⟩, ⟨some 19, none, .mv (.c (.one (.lit (.int .i64 0))))⟩])
 (.fg [1, 5, 17, 18, 19] (.block 0 (.loop (.seq (.ops false [⟨some 20, none, .bin .lss (.t 19) (.t 18)⟩])
 (.fg [1, 5, 17, 18, 19, 20] (.seq (.cond (.t 20) .skip (.exit 0))
 (.fg [1, 5, 17, 18, 19] (.seq (.block 1 (.seq (.ops false [⟨some 21, none, .mv (.t 19)⟩, ⟨some 22, none, .idx 1 (.t 17) (.t 19)⟩, ⟨some 23, none, .ld none 1 false (.t 22)⟩, ⟨some 6, none, .mv (.t 21)⟩, ⟨some 7, none, .mv (.t 23)⟩])
 (.fg [1, 5, 6, 7, 17, 18, 19] (.seq (.ops false [⟨some 8, none, .mv (.c (.one (.lit (.int .u64 0))))⟩])
 (.fg [1, 5, 6, 7, 8, 17, 18, 19] (.seq (.seq (.ops false [⟨some 24, none, .mv (.t 1)⟩, ⟨some 25, none, .len (.t 24)⟩, ⟨some 26, none, .mv (.c (.one (.lit (.int .i64 0))))⟩])
 (.fg [1, 5, 6, 7, 8, 17, 18, 19, 24, 25, 26] (.block 2 (.loop (.seq (.ops false [⟨some 27, none, .bin .lss (.t 26) (.t 25)⟩])
 (.fg [1, 5, 6, 7, 8, 17, 18, 19, 24, 25, 26, 27] (.seq (.cond (.t 27) .skip (.exit 2))
 (.fg [1, 5, 6, 7, 8, 17, 18, 19, 24, 25, 26] (.seq (.block 3 (.seq (.ops false [⟨some 28, none, .mv (.t 26)⟩, ⟨some 29, none, .idx 1 (.t 24) (.t 26)⟩, ⟨some 30, none, .ld none 1 false (.t 29)⟩, ⟨some 9, none, .mv (.t 28)⟩, ⟨some 10, none, .mv (.t 30)⟩])
 (.fg [1, 5, 6, 7, 8, 9, 10, 17, 18, 19, 24, 25, 26] (.seq (.ops false [⟨some 31, none, .mv (.t 8)⟩, ⟨some 32, none, .mv (.t 7)⟩, ⟨some 33, none, .conv .u64 (.t 32)⟩, ⟨some 34, none, .mv (.t 10)⟩, ⟨some 35, none, .conv .u64 (.t 34)⟩, ⟨some 36, none, .bin .mul (.t 33) (.t 35)⟩, ⟨some 37, none, .mv (.t 5)⟩, ⟨some 38, none, .mv (.t 6)⟩, ⟨some 39, none, .mv (.t 9)⟩, ⟨some 40, none, .bin .add (.t 38) (.t 39)⟩, ⟨some 41, none, .idx 1 (.t 37) (.t 40)⟩, ⟨some 42, none, .ld none 1 false (.t 41)⟩, ⟨some 43, none, .conv .u64 (.t 42)⟩, ⟨some 44, none, .bin .add (.t 36) (.t 43)⟩, ⟨some 45, none, .bin .add (.t 31) (.t 44)⟩, ⟨some 8, none, .mv (.t 45)⟩])
 (.fg [1, 5, 6, 7, 8, 9, 17, 18, 19, 24, 25, 26] (.seq (.ops false [⟨some 46, none, .mv (.t 5)⟩, ⟨some 47, none, .mv (.t 6)⟩, ⟨some 48, none, .mv (.t 9)⟩, ⟨some 49, none, .bin .add (.t 47) (.t 48)⟩, ⟨some 50, none, .mv (.t 8)⟩, ⟨some 51, none, .conv .u32 (.t 50)⟩, ⟨some 52, none, .idx 1 (.t 46) (.t 49)⟩, ⟨none, none, .st none 1 (.t 52) (.t 51)⟩])
 (.fg [1, 5, 6, 7, 8, 17, 18, 19, 24, 25, 26] (.ops false [⟨some 53, none, .mv (.t 8)⟩, ⟨some 54, none, .bin .shr (.t 53) (.c (.one (.lit (.int .u64 32))))⟩, ⟨some 8, none, .mv (.t 54)⟩]))))))))
 (.fg [1, 5, 6, 7, 8, 17, 18, 19, 24, 25, 26] (.ops false [⟨some 55, none, .bin .add (.t 26) (.c (.one (.lit (.int .i64 1))))⟩, ⟨some 26, none, .mv (.t 55)⟩])))))))))))
 (.fg [1, 5, 6, 8, 17, 18, 19] (.ops false [⟨some 56, none, .mv (.t 5)⟩, ⟨some 57, none, .mv (.t 6)⟩, ⟨some 58, none, .mv (.t 1)⟩, ⟨some 59, none, .len (.t 58)⟩, ⟨some 60, none, .bin .add (.t 57) (.t 59)⟩, ⟨some 61, none, .mv (.t 8)⟩, ⟨some 62, none, .conv .u32 (.t 61)⟩, ⟨some 63, none, .idx 1 (.t 56) (.t 60)⟩, ⟨none, none, .st none 1 (.t 63) (.t 62)⟩]))))))))
 (.fg [1, 5, 17, 18, 19] (.ops false [⟨some 64, none, .bin .add (.t 19) (.c (.one (.lit (.int .i64 1))))⟩, ⟨some 19, none, .mv (.t 64)⟩])))))))))))
 (.fg [5] (.seq (.ops false [⟨some 65, none, .mv (.t 5)⟩, ⟨some 66, none, .call f_integer_trim [(.t 65)]⟩, ⟨some 4, none, .mv (.t 66)⟩])
 .ret)))))))


theorem up_sound (hΓ : Holds P Γ) {f : Nat} (hc : check P f = some (41, ac_integer_up.strip, [.tmp 4])) : Sound P f (.fresh 1 up_G) := by
  refine sound_fresh hc up_good hΓ (fun args K hcl hfi hG => ?_)
  match args, hG with
  | [a, b], hG =>
    obtain ⟨x, rfl, hx, hG⟩ := hG
    obtain ⟨k, m, rfl, rfl, hm, hmB, hxl, hK⟩ := asInt_inv hG
    obtain ⟨m, rfl⟩ : ∃ n : Nat, m = n := ⟨m.toNat, by omega⟩
    simp only [Int.toNat_natCast] at hK
    refine ⟨by simp, ?_⟩
    simp only [go_sem, ↓reduceIte, Nat.reduceEqDiff, Nat.reduceAdd, Nat.reduceLT, Nat.reduceLeDiff, Int.reduceToNat, Nat.reducePow, Nat.reduceMul, reduceCtorEq, ac_integer_up]
    intro h1
    refine ⟨by omega, by omega, fun _ => ?_⟩
    refine wpA_loop (fun p : List Nat × Nat => ⟨mkV [(1, .one (.lit (.int .i64 m))), (5, .one (.own 12 1 1 0 (x.length + 1))), (13, wsA x), (14, .one (.lit (.int .i64 x.length))), (15, .one (.lit (.int .i64 p.1.length)))], mkH [(12, ⟨1, some ⟨(p.1 ++ p.2 :: List.replicate (x.length - p.1.length) 0).map wc, 1, true⟩⟩)]⟩)
      (fun p => p.1.length ≤ x.length ∧ WL p.1 ∧ p.2 < 2 ^ m ∧ val p.1 + 4294967296 ^ p.1.length * p.2 = val (x.take p.1.length) * 2 ^ m) (fun p => x.length - p.1.length) ([], 0) ?_ ?_ ?_
    · exact weak_lit (by simp [okS, okV, okC, okL, okH, okB, okE, mkV_cons, mkV_nil, mkH_cons, mkH_nil, wsA, ws]) (okH_1 (by simp [List.replicate_succ]))
    · simp [WL_nil, val]; exact Nat.pow_pos (by omega)
    · rintro ⟨o, c⟩ ⟨hoN, ho, hc1, hval⟩
      simp only at hoN ho hc1 hval
      have hlen : (o ++ c :: List.replicate (x.length - o.length) 0).length = x.length + 1 := by simp; omega
      simp only [go_sem, ↓reduceIte, Nat.reduceEqDiff, Nat.reduceAdd, Nat.reduceLT, Nat.reduceLeDiff, Int.reduceToNat, Nat.reducePow, Nat.reduceMul, reduceCtorEq, hlen, List.length_set]
      refine ⟨fun hlt => ?_, fun hge => ?_⟩
      · have g1 := WL_getD hx o.length
        obtain ⟨s1, s2, s3, s4⟩ := up_step (by omega) hc1 g1
        have e1 : x.getD o.length 0 % 18446744073709551616 = x.getD o.length 0 := by omega
        have hp := pow2_lt (show m < 32 by omega)
        rw [get_at, e1, Nat.mod_eq_of_lt s1, s2, put_at]
        generalize hy : x.getD o.length 0 * 2 ^ m = y at s1 s2 s3 s4
        rw [Nat.mod_eq_of_lt (show y / 4294967296 < 4294967296 by omega)]
        refine ⟨hlt, ⟨rfl, by omega⟩, by omega, by omega, ⟨rfl, by omega, by omega⟩, by omega, by omega, by omega, by omega, by omega, by omega, by omega, (o ++ [y % 4294967296 + c], y / 4294967296), weak_lit (by simp [okS, okV, okC, okL, okH, okB, okE, mkV_cons, mkV_nil, mkH_cons, mkH_nil, wsA, ws]) (okH_1 ?_), ⟨by simp; omega, WL_append.2 ⟨ho, WL_cons.2 ⟨s3, WL_nil⟩⟩, s4, ?_⟩, by simp; omega⟩
        · rw [show x.length - o.length = (x.length - (o.length + 1)) + 1 by omega, List.replicate_succ, put_at1]; simp
        · simp only [List.length_append, List.length_cons, List.length_nil, Nat.zero_add, take_succ, val_append, val_cons, val_nil, Nat.mul_zero, Nat.add_zero, Nat.pow_succ]
          rw [up_aux (B := 4294967296) (x := y) hval rfl, Nat.add_mul, ← hy, Nat.mul_assoc]
      · have e : o.length = x.length := by omega
        have hcB : c < 4294967296 := by have := pow2_lt (show m < 32 by omega); omega
        rw [e, take_all (Nat.le_refl _)] at hval
        simp only [e, Nat.sub_self, List.replicate_zero]
        have hw : WL (o ++ [c]) := WL_append.2 ⟨ho, WL_cons.2 ⟨hcB, WL_nil⟩⟩
        have hv : val (o ++ [c]) = val x * 2 ^ m := by rw [val_append, e]; simpa [val] using hval
        have := dig_val hw
        rw [hv, List.length_append, List.length_singleton, e] at this
        rw [← this]; exact hK

theorem down_sound (hΓ : Holds P Γ) {f fw ft : Nat} (hw : Γ fw = .dat true word_G) (ht : Γ ft = .dat false trim_G) (hc : check P f = some (35, (ac_integer_down fw ft).strip, [.tmp 4])) : Sound P f (.dat false down_G) := by
  refine sound_dat hc down_good hΓ (fun args K hcl hfi hG => ?_)
  match args, hG with
  | [a, b], hG =>
    obtain ⟨x, rfl, hx, hG⟩ := hG
    obtain ⟨k, m, rfl, rfl, hm, hmB, hxl, hK⟩ := asInt_inv hG
    obtain ⟨m, rfl⟩ : ∃ n : Nat, m = n := ⟨m.toNat, by omega⟩
    simp only [Int.toNat_natCast] at hK
    refine ⟨by simp, ?_⟩
    simp only [go_sem, ↓reduceIte, Nat.reduceEqDiff, Nat.reduceAdd, Nat.reduceLT, Nat.reduceLeDiff, Int.reduceToNat, Nat.reducePow, Nat.reduceMul, reduceCtorEq, ac_integer_down, hw, ht]
    intro h1
    refine ⟨by omega, fun _ => ?_⟩
    refine wpA_loop (fun o : List Nat => ⟨mkV [(0, wsA x), (1, .one (.lit (.int .i64 m))), (5, .one (.own 9 1 1 0 x.length)), (11, .one (.lit (.int .i64 x.length))), (12, .one (.lit (.int .i64 o.length)))], mkH [(9, ⟨1, some ⟨(o ++ List.replicate (x.length - o.length) 0).map wc, 1, true⟩⟩)]⟩)
      (fun o => o.length ≤ x.length ∧ WL o ∧ val o = val x / 2 ^ m % 4294967296 ^ o.length) (fun o => x.length - o.length) [] ?_ ?_ ?_
    · exact weak_lit (by simp [okS, okV, okC, okL, okH, okB, okE, mkV_cons, mkV_nil, mkH_cons, mkH_nil, wsA, ws]) (okH_1 (by simp))
    · simp [WL_nil, val, Nat.mod_one]
    · rintro o ⟨hoN, ho, hval⟩
      have hlen : (o ++ List.replicate (x.length - o.length) 0).length = x.length := by simp; omega
      simp only [go_sem, ↓reduceIte, Nat.reduceEqDiff, Nat.reduceAdd, Nat.reduceLT, Nat.reduceLeDiff, Int.reduceToNat, Nat.reducePow, Nat.reduceMul, reduceCtorEq, hw, ht, hlen]
      refine ⟨fun hlt => ⟨hlt, by omega, hx, ⟨rfl, by omega⟩, ⟨rfl, by omega, by omega⟩, by omega, hlt, hlt, by omega, ?_⟩, fun hge => ?_⟩
      · have g1 := WL_getD hx o.length
        have g2 := WL_getD hx (o.length + 1)
        have e1 : x.getD o.length 0 % 18446744073709551616 = x.getD o.length 0 := by omega
        have e2 : x.getD (o.length + 1) 0 * 4294967296 % 18446744073709551616 = x.getD (o.length + 1) 0 * 4294967296 := by omega
        rw [e1, e2, or32' _ _ g1, show x.getD (o.length + 1) 0 * 4294967296 + x.getD o.length 0 = x.getD o.length 0 + 4294967296 * x.getD (o.length + 1) 0 by omega, down_step hx (by omega)]
        generalize hv : val x / 2 ^ m / 4294967296 ^ o.length % 4294967296 = v
        have hvB : v < 4294967296 := by rw [← hv]; exact Nat.mod_lt _ (by omega)
        refine ⟨o ++ [v], weak_lit (by simp [okS, okV, okC, okL, okH, okB, okE, mkV_cons, mkV_nil, mkH_cons, mkH_nil, wsA, ws]) (okH_1 ?_), ⟨by simp; omega, WL_append.2 ⟨ho, WL_cons.2 ⟨hvB, WL_nil⟩⟩, ?_⟩, by simp; omega⟩
        · rw [show x.length - o.length = x.length - (o.length + 1) + 1 by omega, rep_set]; simp
        · rw [val_append, List.length_append, List.length_singleton, mod_pow_succ, hv, ← hval]; simp [val]
      · have e : o.length = x.length := by omega
        have hlt : val x / 2 ^ m < 4294967296 ^ x.length := Nat.lt_of_le_of_lt (Nat.div_le_self _ _) (val_lt hx)
        rw [e, Nat.mod_eq_of_lt hlt] at hval
        simp only [e, Nat.sub_self, List.replicate_zero, List.append_nil]
        refine ⟨ho, by omega, ?_⟩
        rw [hval]; exact hK

theorem times_sound (hΓ : Holds P Γ) {f ft : Nat} (ht : Γ ft = .dat false trim_G) (hc : check P f = some (67, (ac_integer_times ft).strip, [.tmp 4])) : Sound P f (.dat false times_G) := by
  refine sound_dat hc times_good hΓ (fun args K hcl hfi hG => ?_)
  match args, hG with
  | [a, b], hG =>
    obtain ⟨x, rfl, hx, y, rfl, hy, hxl, hyl, hK⟩ := hG
    refine ⟨by simp, ?_⟩
    simp only [go_sem, ↓reduceIte, Nat.reduceEqDiff, Nat.reduceAdd, Nat.reduceLT, Nat.reduceLeDiff, Int.reduceToNat, Nat.reducePow, Nat.reduceMul, reduceCtorEq, ac_integer_times, ht]
    intro h1 h2
    refine ⟨by omega, by omega, fun _ => ?_⟩
    generalize hN : x.length + y.length = N
    refine wpA_loop (fun p : Nat × List Nat => ⟨mkV [(1, wsA y), (5, .one (.own 16 1 1 0 N)), (17, wsA x), (18, .one (.lit (.int .i64 x.length))), (19, .one (.lit (.int .i64 p.1)))], mkH [(16, ⟨1, some ⟨p.2.map wc, 1, true⟩⟩)]⟩)
      (fun p => p.1 ≤ x.length ∧ WL p.2 ∧ p.2.length = N ∧ val p.2 = val (x.take p.1) * val y ∧ ∀ j, p.1 + y.length ≤ j → p.2.getD j 0 = 0) (fun p => x.length - p.1) (0, List.replicate N 0) ?_ ?_ ?_
    · exact weak_lit (by simp [okS, okV, okC, okL, okH, okB, okE, mkV_cons, mkV_nil, mkH_cons, mkH_nil, wsA, ws]) (okH_1 (by simp))
    · simp [WL_rep, val, val_rep]; intro j _; rw [List.getElem?_replicate]; split <;> rfl
    · rintro ⟨i, o⟩ ⟨hi, ho, hoN, hval, hz⟩
      simp only at hi ho hoN hval hz
      simp only [go_sem, ↓reduceIte, Nat.reduceEqDiff, Nat.reduceAdd, Nat.reduceLT, Nat.reduceLeDiff, Int.reduceToNat, Nat.reducePow, Nat.reduceMul, reduceCtorEq, ht, hoN]
      refine ⟨fun hlt => ⟨hlt, fun _ => ?_⟩, fun hge => ?_⟩
      · have g1 := WL_getD hx i
        refine wpA_loop (fun p : Nat × Nat × List Nat => ⟨mkV [(1, wsA y), (5, .one (.own 16 1 1 0 N)), (6, .one (.lit (.int .i64 i))), (7, .one (.lit (.int .u32 (x.getD i 0 : Nat)))), (8, .one (.lit (.int .u64 p.2.1))), (17, wsA x), (18, .one (.lit (.int .i64 x.length))), (19, .one (.lit (.int .i64 i))), (24, wsA y), (25, .one (.lit (.int .i64 y.length))), (26, .one (.lit (.int .i64 p.1)))], mkH [(16, ⟨1, some ⟨p.2.2.map wc, 1, true⟩⟩)]⟩)
          (fun p => p.1 ≤ y.length ∧ p.2.1 < 4294967296 ∧ WL p.2.2 ∧ p.2.2.length = N ∧ val p.2.2 + 4294967296 ^ i * 4294967296 ^ p.1 * p.2.1 = val (x.take i) * val y + 4294967296 ^ i * x.getD i 0 * val (y.take p.1) ∧ ∀ j, i + y.length ≤ j → p.2.2.getD j 0 = 0) (fun p => y.length - p.1) (0, 0, o) ?_ ?_ ?_
        · exact weak_lit (by simp [okS, okV, okC, okL, okH, okB, okE, mkV_cons, mkV_nil, mkH_cons, mkH_nil, wsA, ws]) (okH_1 rfl)
        · exact ⟨Nat.zero_le _, by simp, ho, hoN, by simp [val, hval], hz⟩
        · rintro ⟨k, c, o⟩ ⟨hk, hc, ho, hoN, hval, hz⟩
          simp only at hk hc ho hoN hval hz
          simp only [go_sem, ↓reduceIte, Nat.reduceEqDiff, Nat.reduceAdd, Nat.reduceLT, Nat.reduceLeDiff, Int.reduceToNat, Nat.reducePow, Nat.reduceMul, reduceCtorEq, ht, hoN]
          refine ⟨fun hlt2 => ?_, fun hge2 => ?_⟩
          · have g2 := WL_getD hy k
            have g3 := WL_getD ho (i + k)
            have s1 := mul_lt64 g1 g2 hc g3
            have e1 : x.getD i 0 % 18446744073709551616 = x.getD i 0 := by omega
            have e2 : y.getD k 0 % 18446744073709551616 = y.getD k 0 := by omega
            have e3 : o.getD (i + k) 0 % 18446744073709551616 = o.getD (i + k) 0 := by omega
            have hstep := times_step hval (by omega) rfl
            rw [e1, e2, e3, Nat.mod_eq_of_lt (show x.getD i 0 * y.getD k 0 < 18446744073709551616 by omega), Nat.mod_eq_of_lt (show x.getD i 0 * y.getD k 0 + o.getD (i + k) 0 < 18446744073709551616 by omega), Nat.mod_eq_of_lt s1]
            generalize hs : c + (x.getD i 0 * y.getD k 0 + o.getD (i + k) 0) = s at s1 hstep
            refine ⟨hlt2, by omega, by omega, by omega, by omega, by omega, by omega, by omega, by omega, (k + 1, s / 4294967296, o.set (i + k) (s % 4294967296)), weak_lit (by simp [okS, okV, okC, okL, okH, okB, okE, mkV_cons, mkV_nil, mkH_cons, mkH_nil, wsA, ws]) (okH_1 rfl), ⟨by simp only; omega, by simp only; omega, WL_set ho _ (Nat.mod_lt _ (by omega)), by simp [hoN], hstep, ?_⟩, by simp only; omega⟩
            intro j hj
            simp only
            rw [Num.getD_set_ne (by omega)]; exact hz j hj
          · have e : k = y.length := by omega
            subst e
            have hend := times_end hval (by omega) (hz _ (Nat.le_refl _))
            rw [Nat.mod_eq_of_lt hc]
            refine fun _ => ⟨by omega, by omega, by omega, by omega, (i + 1, o.set (i + y.length) c), weak_lit (by simp [okS, okV, okC, okL, okH, okB, okE, mkV_cons, mkV_nil, mkH_cons, mkH_nil, wsA, ws]) (okH_1 rfl), ⟨by simp only; omega, WL_set ho _ hc, by simp [hoN], hend, ?_⟩, by simp only; omega⟩
            intro j hj
            simp only at hj ⊢
            rw [Num.getD_set_ne (by omega)]; exact hz j (by omega)
      · have e : i = x.length := by omega
        subst e
        rw [take_all (Nat.le_refl _)] at hval
        refine ⟨ho, by omega, ?_⟩
        rw [hval]; exact hK

end Go.Abs
end

/-
  The program's lists of words: remove and back, which write into their caller's rows.
-/
section
set_option linter.unusedVariables false
set_option linter.unusedSimpArgs false
set_option maxRecDepth 100000
namespace Go.Abs
open Go.Num

variable {P : Program} {Γ : Nat → Spec}

/-- linkwork/integer.remove (46) [.tmp 6] -/
def ac_integer_remove (f_integer_word : Nat) : AC := (.seq (.ops false [⟨some 6, none, .mv (.c (.one (.lit (.bool false))))⟩])
 (.fg [0, 1, 2] (.seq (.ops false [⟨some 7, none, .mv (.c (.one (.lit (.int .u64 0))))⟩, ⟨some 8, none, .mv (.c (.one (.lit (.int .u64 0))))⟩])
 (.fg [0, 1, 2, 7, 8] (.seq (.seq (.ops false [⟨some 11, none, .mv (.t 0)⟩, ⟨some 12, none, .len (.t 11)⟩, ⟨some 13, none, .mv (.c (.one (.lit (.int .i64 0))))⟩])
 (.fg [0, 1, 2, 7, 8, 12, 13] (.block 0 (.loop (.seq (.ops false [⟨some 14, none, .bin .lss (.t 13) (.t 12)⟩])
 (.fg [0, 1, 2, 7, 8, 12, 13, 14] (.seq (.cond (.t 14) .skip (.exit 0))
 (.fg [0, 1, 2, 7, 8, 12, 13] (.seq (.block 1 (.seq (.ops false [⟨some 15, none, .mv (.t 13)⟩, ⟨some 9, none, .mv (.t 15)⟩])
 (.fg [0, 1, 2, 7, 8, 9, 12, 13] (.seq (.ops false [⟨some 16, none, .mv (.t 7)⟩, ⟨some 17, none, .mv (.t 2)⟩, ⟨some 18, none, .mv (.t 1)⟩, ⟨some 19, none, .mv (.t 9)⟩, ⟨some 20, none, .call f_integer_word [(.t 18), (.t 19)]⟩, ⟨some 21, none, .bin .mul (.t 17) (.t 20)⟩, ⟨some 22, none, .bin .add (.t 16) (.t 21)⟩, ⟨some 7, none, .mv (.t 22)⟩])
 (.fg [0, 1, 2, 7, 8, 9, 12, 13] (.seq (.ops false [⟨some 23, none, .mv (.t 0)⟩, ⟨some 24, none, .mv (.t 9)⟩, ⟨some 25, none, .idx 1 (.t 23) (.t 24)⟩, ⟨some 26, none, .ld none 1 false (.t 25)⟩, ⟨some 27, none, .conv .u64 (.t 26)⟩, ⟨some 28, none, .mv (.t 7)⟩, ⟨some 29, none, .conv .u32 (.t 28)⟩, ⟨some 30, none, .conv .u64 (.t 29)⟩, ⟨some 31, none, .bin .sub (.t 27) (.t 30)⟩, ⟨some 32, none, .mv (.t 8)⟩, ⟨some 33, none, .bin .sub (.t 31) (.t 32)⟩, ⟨some 10, none, .mv (.t 33)⟩])
 (.fg [0, 1, 2, 7, 9, 10, 12, 13] (.seq (.ops false [⟨some 34, none, .mv (.t 0)⟩, ⟨some 35, none, .mv (.t 9)⟩, ⟨some 36, none, .mv (.t 10)⟩, ⟨some 37, none, .conv .u32 (.t 36)⟩, ⟨some 38, none, .idx 1 (.t 34) (.t 35)⟩, ⟨none, none, .st none 1 (.t 38) (.t 37)⟩])
 (.fg [0, 1, 2, 7, 10, 12, 13] (.seq (.ops false [⟨some 39, none, .mv (.t 10)⟩, ⟨some 40, none, .bin .shr (.t 39) (.c (.one (.lit (.int .u64 63))))⟩, ⟨some 8, none, .mv (.t 40)⟩])
 (.fg [0, 1, 2, 7, 8, 12, 13] (.ops false [⟨some 41, none, .mv (.t 7)⟩, ⟨some 42, none, .bin .shr (.t 41) (.c (.one (.lit (.int .u64 32))))⟩, ⟨some 7, none, .mv (.t 42)⟩]))))))))))))
 (.fg [0, 1, 2, 7, 8, 12, 13] (.ops false [⟨some 43, none, .bin .add (.t 13) (.c (.one (.lit (.int .i64 1))))⟩, ⟨some 13, none, .mv (.t 43)⟩])))))))))))
 (.fg [8] (.seq (.ops false [⟨some 44, none, .mv (.t 8)⟩, ⟨some 45, none, .bin .eql (.t 44) (.c (.one (.lit (.int .u64 1))))⟩, ⟨some 6, none, .mv (.t 45)⟩])
 .ret)))))))

/-- linkwork/integer.back (30) [] -/
def ac_integer_back (f_integer_word : Nat) : AC := (.seq (.ops false [⟨some 4, none, .mv (.c (.one (.lit (.int .u64 0))))⟩])
 (.fg [0, 1, 4] (.seq (.ops false [⟨some 6, none, .mv (.t 0)⟩, ⟨some 7, none, .len (.t 6)⟩, ⟨some 8, none, .mv (.c (.one (.lit (.int .i64 0))))⟩])
 (.fg [0, 1, 4, 7, 8] (.block 0 (.loop (.seq (.ops false [⟨some 9, none, .bin .lss (.t 8) (.t 7)⟩])
 (.fg [0, 1, 4, 7, 8, 9] (.seq (.cond (.t 9) .skip (.exit 0))
 (.fg [0, 1, 4, 7, 8] (.seq (.block 1 (.seq (.ops false [⟨some 10, none, .mv (.t 8)⟩, ⟨some 5, none, .mv (.t 10)⟩])
 (.fg [0, 1, 4, 5, 7, 8] (.seq (.ops true [⟨some 11, none, .mv (.t 4)⟩, ⟨some 12, none, .mv (.t 0)⟩, ⟨some 13, none, .mv (.t 5)⟩, ⟨some 14, none, .idx 1 (.t 12) (.t 13)⟩, ⟨some 15, none, .ld none 1 false (.t 14)⟩, ⟨some 16, none, .conv .u64 (.t 15)⟩, ⟨some 17, none, .mv (.t 1)⟩, ⟨some 18, none, .mv (.t 5)⟩, ⟨some 19, none, .call f_integer_word [(.t 17), (.t 18)]⟩, ⟨some 20, none, .bin .add (.t 16) (.t 19)⟩, ⟨some 21, none, .bin .add (.t 11) (.t 20)⟩, ⟨some 4, none, .mv (.t 21)⟩])
 (.fg [0, 1, 4, 5, 7, 8] (.seq (.ops false [⟨some 22, none, .mv (.t 0)⟩, ⟨some 23, none, .mv (.t 5)⟩, ⟨some 24, none, .mv (.t 4)⟩, ⟨some 25, none, .conv .u32 (.t 24)⟩, ⟨some 26, none, .idx 1 (.t 22) (.t 23)⟩, ⟨none, none, .st none 1 (.t 26) (.t 25)⟩])
 (.fg [0, 1, 4, 7, 8] (.ops false [⟨some 27, none, .mv (.t 4)⟩, ⟨some 28, none, .bin .shr (.t 27) (.c (.one (.lit (.int .u64 32))))⟩, ⟨some 4, none, .mv (.t 28)⟩]))))))))
 (.fg [0, 1, 4, 7, 8] (.ops false [⟨some 29, none, .bin .add (.t 8) (.c (.one (.lit (.int .i64 1))))⟩, ⟨some 8, none, .mv (.t 29)⟩])))))))))))))


theorem remove_sound (hΓ : Holds P Γ) {f fw : Nat} (hw : Γ fw = .dat true word_G) (hc : check P f = some (46, (ac_integer_remove fw).strip, [.tmp 6])) : Sound P f (.own remove_G) := by
  refine sound_own hc hΓ (fun d args h K hG => ?_)
  unfold remove_G at hG
  split at hG
  case h_2 => exact hG.elim
  rename_i r ver off len b n
  obtain ⟨v, rfl, hv, pre, seg, post, m, rfl, rfl, rfl, hr, hseg, hm, hvl, hlt, hsl, hK⟩ := hG
  refine ⟨[r], [⟨(pre ++ seg ++ post).map wc, 1, true⟩], [.one (.own 1048576 ver 1 pre.length seg.length), wsA v, .one (.lit (.int .u64 m))], by simp, rfl, ?_, ?_, ?_, fun hfi => ⟨by simp, ?_⟩⟩
  · intro i r' b h1 h2
    cases i with
    | zero => simp only [List.getElem?_cons_zero, Option.some.injEq] at h1 h2; subst h1 h2; exact ⟨by rw [hr], rfl, of_eq_true (clean_ws _)⟩
    | succ i => simp at h1
  · simp [exA, exC, exB, nameOf, pinA, wsA, ws]
  · intro a ha
    simp only [List.mem_cons, List.not_mem_nil, or_false] at ha
    rcases ha with rfl | rfl | rfl
    · simp [pasA, pasC, pasB, nameOf, pinA]
    · exact .slice _ (of_eq_true (clean_ws _))
    · exact .lit _
  simp only [go_sem, ↓reduceIte, Nat.reduceEqDiff, Nat.reduceAdd, Nat.reduceLT, Nat.reduceLeDiff, Int.reduceToNat, Nat.reducePow, Nat.reduceMul, reduceCtorEq, ac_integer_remove, hw, hr]
  intro h1
  refine wpA_loop (fun p : List Nat × Nat × Nat × Nat => ⟨mkV [(0, .one (.own 1048576 ver 1 pre.length seg.length)), (1, wsA v), (2, .one (.lit (.int .u64 m))), (7, .one (.lit (.int .u64 p.2.1))), (8, .one (.lit (.int .u64 p.2.2.1))), (12, .one (.lit (.int .i64 seg.length))), (13, .one (.lit (.int .i64 p.1.length)))],
      mkH [(1048576, ⟨ver, some ⟨(pre ++ (p.1 ++ seg.drop p.1.length) ++ post).map wc, 1, true⟩⟩)]⟩)
    (fun p => p.1.length ≤ seg.length ∧ WL p.1 ∧ (p.2.1 = 0 ∨ p.2.1 < m) ∧ p.2.2.1 ≤ 1 ∧ p.2.2.2 + 4294967296 ^ p.1.length * p.2.1 = m * val (v.take p.1.length) ∧ val p.1 + p.2.2.2 = val (seg.take p.1.length) + 4294967296 ^ p.1.length * p.2.2.1) (fun p => seg.length - p.1.length) ([], 0, 0, 0) ?_ ?_ ?_
  · exact weak_lit (by simp [okS, okV, okC, okL, okH, okB, okE, mkV_cons, mkV_nil, mkH_cons, mkH_nil, wsA, ws]) (okH_1 (by simp))
  · simp [WL_nil, val]
  · rintro ⟨o, c, bw, p⟩ ⟨hoN, ho, hc1, hb1, hp1, hp2⟩
    simp only at hoN ho hc1 hb1 hp1 hp2
    have hlen : (pre ++ (o ++ seg.drop o.length) ++ post).length = pre.length + seg.length + post.length := by simp; omega
    simp only [go_sem, ↓reduceIte, Nat.reduceEqDiff, Nat.reduceAdd, Nat.reduceLT, Nat.reduceLeDiff, Int.reduceToNat, Nat.reducePow, Nat.reduceMul, reduceCtorEq, hw, hr, hlen]
    refine ⟨fun hlt2 => ?_, fun hge => ?_⟩
    · have g1 := WL_getD hseg o.length
      have g2 := WL_getD hv o.length
      obtain ⟨s1, s2⟩ := rem_carry hm g2 hc1
      have a1 := rem_aux1 (B := 4294967296) (v := v.getD o.length 0) hp1
      have e1 : m * v.getD o.length 0 % 18446744073709551616 = m * v.getD o.length 0 := Nat.mod_eq_of_lt (by omega)
      have e2 : seg.getD o.length 0 % 18446744073709551616 = seg.getD o.length 0 := by omega
      rw [get_mid _ _ _ _ hlt2, e1, e2, Nat.mod_eq_of_lt s1, set_mid _ _ _ _ _ hlt2]
      generalize hs : c + m * v.getD o.length 0 = s at s1 s2 a1
      have e3 : s % 4294967296 % 18446744073709551616 = s % 4294967296 := by omega
      rw [e3]
      obtain ⟨t1, t2⟩ := sub_step (b := s % 4294967296) g1 (by omega) hb1
      generalize sub64 (sub64 (seg.getD o.length 0) (s % 4294967296)) bw = d at t1 t2
      have a2 := rem_aux2 hp2 t1
      refine ⟨hv, hlt2, by omega, hlt2, by omega, by omega, by omega, by omega, (o ++ [d % 4294967296], s / 4294967296, d / 9223372036854775808, p + 4294967296 ^ o.length * (s % 4294967296)), weak_lit (by simp [okS, okV, okC, okL, okH, okB, okE, mkV_cons, mkV_nil, mkH_cons, mkH_nil, wsA, ws]) (okH_1 rfl), ⟨by simp; omega, WL_append.2 ⟨ho, WL_cons.2 ⟨Nat.mod_lt _ (by omega), WL_nil⟩⟩, s2, t2, ?_, ?_⟩, by simp; omega⟩
      · simp only [List.length_append, List.length_cons, List.length_nil, Nat.zero_add, take_succ, Nat.pow_succ]
        exact a1
      · simp only [List.length_append, List.length_cons, List.length_nil, Nat.zero_add, take_succ, val_append, val_cons, val_nil, Nat.mul_zero, Nat.add_zero, Nat.pow_succ]
        exact a2
    · have e : o.length = seg.length := by omega
      rw [e] at hp1 hp2
      rw [take_all hvl] at hp1
      rw [take_all (Nat.le_refl _)] at hp2
      obtain ⟨t1, t2⟩ := rem_end ho e hp1 hlt hp2 hb1
      rw [List.drop_of_length_le (by omega), List.append_nil]
      rw [← t1] at hK
      have : (decide ((bw : Int) = 1)) = decide (val seg < m * val v) := by
        rw [decide_eq_decide, ← t2]; omega
      rw [this]; exact hK

theorem back_sound (hΓ : Holds P Γ) {f fw : Nat} (hw : Γ fw = .dat true word_G) (hc : check P f = some (30, (ac_integer_back fw).strip, [])) : Sound P f (.own back_G) := by
  refine sound_own hc hΓ (fun d args h K hG => ?_)
  unfold back_G at hG
  split at hG
  case h_2 => exact hG.elim
  rename_i r ver off len b
  obtain ⟨v, rfl, hv, pre, seg, post, rfl, rfl, hr, hseg, hvl, hsl, hK⟩ := hG
  refine ⟨[r], [⟨(pre ++ seg ++ post).map wc, 1, true⟩], [.one (.own 1048576 ver 1 pre.length seg.length), wsA v], by simp, rfl, ?_, ?_, ?_, fun hfi => ⟨by simp, ?_⟩⟩
  · intro i r' b h1 h2
    cases i with
    | zero => simp only [List.getElem?_cons_zero, Option.some.injEq] at h1 h2; subst h1 h2; exact ⟨by rw [hr], rfl, of_eq_true (clean_ws _)⟩
    | succ i => simp at h1
  · simp [exA, exC, exB, nameOf, pinA, wsA, ws]
  · intro a ha
    simp only [List.mem_cons, List.not_mem_nil, or_false] at ha
    rcases ha with rfl | rfl
    · simp [pasA, pasC, pasB, nameOf, pinA]
    · exact .slice _ (of_eq_true (clean_ws _))
  simp only [go_sem, ↓reduceIte, Nat.reduceEqDiff, Nat.reduceAdd, Nat.reduceLT, Nat.reduceLeDiff, Int.reduceToNat, Nat.reducePow, Nat.reduceMul, reduceCtorEq, ac_integer_back, hw, hr]
  intro h1
  refine wpA_loop (fun p : List Nat × Nat => ⟨mkV [(0, .one (.own 1048576 ver 1 pre.length seg.length)), (1, wsA v), (4, .one (.lit (.int .u64 p.2))), (7, .one (.lit (.int .i64 seg.length))), (8, .one (.lit (.int .i64 p.1.length)))],
      mkH [(1048576, ⟨ver, some ⟨(pre ++ (p.1 ++ seg.drop p.1.length) ++ post).map wc, 1, true⟩⟩)]⟩)
    (fun p => p.1.length ≤ seg.length ∧ WL p.1 ∧ p.2 ≤ 1 ∧ val p.1 + 4294967296 ^ p.1.length * p.2 = val (seg.take p.1.length) + val (v.take p.1.length)) (fun p => seg.length - p.1.length) ([], 0) ?_ ?_ ?_
  · exact weak_lit (by simp [okS, okV, okC, okL, okH, okB, okE, mkV_cons, mkV_nil, mkH_cons, mkH_nil, wsA, ws]) (okH_1 (by simp))
  · simp [WL_nil, val]
  · rintro ⟨o, c⟩ ⟨hoN, ho, hc1, hp1⟩
    simp only at hoN ho hc1 hp1
    have hlen : (pre ++ (o ++ seg.drop o.length) ++ post).length = pre.length + seg.length + post.length := by simp; omega
    simp only [go_sem, ↓reduceIte, Nat.reduceEqDiff, Nat.reduceAdd, Nat.reduceLT, Nat.reduceLeDiff, Int.reduceToNat, Nat.reducePow, Nat.reduceMul, reduceCtorEq, hw, hr, hlen]
    refine ⟨fun hlt2 => ?_, fun hge => ?_⟩
    · have g1 := WL_getD hseg o.length
      have g2 := WL_getD hv o.length
      have e2 : seg.getD o.length 0 % 18446744073709551616 = seg.getD o.length 0 := by omega
      rw [get_mid _ _ _ _ hlt2, e2, Nat.mod_eq_of_lt (show seg.getD o.length 0 + v.getD o.length 0 < 18446744073709551616 by omega), Nat.mod_eq_of_lt (show c + (seg.getD o.length 0 + v.getD o.length 0) < 18446744073709551616 by omega), set_mid _ _ _ _ _ hlt2]
      have a1 := back_aux (B := 4294967296) (a := seg.getD o.length 0) (b := v.getD o.length 0) hp1 rfl
      generalize hs : c + (seg.getD o.length 0 + v.getD o.length 0) = s at a1
      refine ⟨hlt2, by omega, hv, hlt2, by omega, by omega, by omega, (o ++ [s % 4294967296], s / 4294967296), weak_lit (by simp [okS, okV, okC, okL, okH, okB, okE, mkV_cons, mkV_nil, mkH_cons, mkH_nil, wsA, ws]) (okH_1 rfl), ⟨by simp; omega, WL_append.2 ⟨ho, WL_cons.2 ⟨Nat.mod_lt _ (by omega), WL_nil⟩⟩, by simp only; omega, ?_⟩, by simp; omega⟩
      simp only [List.length_append, List.length_cons, List.length_nil, Nat.zero_add, take_succ, val_append, val_cons, val_nil, Nat.mul_zero, Nat.add_zero, Nat.pow_succ]
      exact a1
    · have e : o.length = seg.length := by omega
      rw [e, take_all hvl, take_all (Nat.le_refl _)] at hp1
      have t1 := back_end ho e hp1
      rw [List.drop_of_length_le (by omega), List.append_nil]
      rw [← t1] at hK
      exact hK

end Go.Abs
end

/-
  Plain arithmetic of the long division of lists of words.
-/
section
set_option linter.unusedVariables false
namespace Go.Num

theorem dig_append : ∀ (a b X : Nat), dig (a + b) X = dig a X ++ dig b (X / 4294967296 ^ a)
  | 0, b, X => by simp [dig]
  | a + 1, b, X => by
    rw [show a + 1 + b = (a + b) + 1 by omega, dig, dig, dig_append a b, Nat.div_div_eq_div_mul, Nat.pow_succ, Nat.mul_comm 4294967296]; simp

theorem dig_zero : ∀ k, dig k 0 = List.replicate k 0
  | 0 => rfl
  | k + 1 => by rw [dig, Nat.zero_mod, Nat.zero_div, dig_zero k, List.replicate_succ]

theorem dig_get : ∀ (k i X : Nat), i < k → (dig k X).getD i 0 = X / 4294967296 ^ i % 4294967296
  | k + 1, 0, X, _ => by simp [dig]
  | k + 1, i + 1, X, h => by
    rw [dig, List.getD_cons_succ, dig_get k i _ (by omega), Nat.div_div_eq_div_mul, Nat.pow_succ, Nat.mul_comm 4294967296]

theorem dig_mod : ∀ (k X : Nat), dig k (X % 4294967296 ^ k) = dig k X := by
  intro k X
  refine val_inj (dig_WL _ _) (dig_WL _ _) (by rw [dig_length, dig_length]) ?_
  rw [val_dig, val_dig, Nat.mod_mod]

theorem dig_low {j X Y : Nat} : dig j (X % 4294967296 ^ j + 4294967296 ^ j * Y) = dig j X := by
  rw [← dig_mod, Nat.add_mul_mod_self_left, Nat.mod_mod, dig_mod]

/-- The list of a number, parted at the segment of a step. -/
theorem dig_split {L j n X : Nat} (h : j + (n + 1) ≤ L) (hX : X / 4294967296 ^ j < 4294967296 ^ (n + 1)) :
    dig L X = dig j X ++ dig (n + 1) (X / 4294967296 ^ j) ++ List.replicate (L - (j + (n + 1))) 0 := by
  conv => lhs; rw [show L = j + (n + 1) + (L - (j + (n + 1))) by omega]
  rw [dig_append, dig_append, Nat.pow_add, ← Nat.div_div_eq_div_mul, Nat.div_eq_of_lt hX, dig_zero]

theorem dig_join {L j n X R : Nat} (h : j + (n + 1) ≤ L) (hR : R < 4294967296 ^ (n + 1)) :
    dig j X ++ dig (n + 1) R ++ List.replicate (L - (j + (n + 1))) 0 = dig L (X % 4294967296 ^ j + 4294967296 ^ j * R) := by
  have e : (X % 4294967296 ^ j + 4294967296 ^ j * R) / 4294967296 ^ j = R := by
    rw [Nat.add_mul_div_left _ _ (pow_pos j), Nat.div_eq_of_lt (Nat.mod_lt _ (pow_pos j)), Nat.zero_add]
  rw [dig_split h (by rw [e]; exact hR), e, dig_low]

/-! ## Knuth's guess -/

/-- All that a step of the division knows. n ≥ 2 words; the divisor's highest word is at least half of the base. -/
structure Step (B n V P top next head u2 : Nat) : Prop where
  hB : 2 ≤ B
  hn : 2 ≤ n
  vlow : ∃ l, V = (top * B + next) * B ^ (n - 2) + l ∧ l < B ^ (n - 2)
  plow : ∃ l, P = (head * B + u2) * B ^ (n - 2) + l ∧ l < B ^ (n - 2)
  nextB : next < B
  topB : top < B
  half : B ≤ 2 * top
  u2B : u2 < B
  lt : P < V * B

namespace Step
variable {B n V P top next head u2 : Nat}

theorem vpos (s : Step B n V P top next head u2) : 0 < V := by
  obtain ⟨l, h, _⟩ := s.vlow
  have : 0 < B ^ (n - 2) := Nat.pow_pos (by have := s.hB; omega)
  have h2 : 0 < top * B + next := by
    have := Nat.mul_pos (show 0 < top by have := s.half; have := s.hB; omega) (show 0 < B by have := s.hB; omega)
    omega
  have := Nat.mul_pos h2 this
  omega

/-- While the test holds, the guess is too great. -/
theorem down (s : Step B n V P top next head u2) {g r : Nat} (hg : g * top + r = head) (h : B ≤ g ∨ r * B + u2 < g * next) : P / V < g := by
  rw [Nat.div_lt_iff_lt_mul s.vpos]
  rcases h with h | h
  · have h1 := Nat.mul_le_mul_right V h
    have := s.lt
    rw [Nat.mul_comm V] at this
    omega
  · obtain ⟨lv, hv, hlv⟩ := s.vlow
    obtain ⟨lp, hp, hlp⟩ := s.plow
    generalize B ^ (n - 2) = p at hv hlv hp hlp
    have h1 : head * B + u2 + 1 ≤ g * (top * B + next) := by
      rw [← hg]
      have : (g * top + r) * B = g * (top * B) + r * B := by rw [Nat.add_mul, Nat.mul_assoc]
      rw [this, Nat.mul_add]
      omega
    have h2 := Nat.mul_le_mul_right p h1
    rw [Nat.add_mul, Nat.one_mul] at h2
    have h3 : g * (top * B + next) * p ≤ g * V := by
      rw [Nat.mul_assoc]; exact Nat.mul_le_mul_left _ (by omega)
    omega

/-- When it does not hold, the guess is at most one too great. -/
theorem stop (s : Step B n V P top next head u2) {g r : Nat} (hg : g * top + r = head) (hgB : g ≤ B) (h : B ≤ r ∨ (g < B ∧ g * next ≤ r * B + u2)) : g * V ≤ P + V := by
  obtain ⟨lv, hv, hlv⟩ := s.vlow
  obtain ⟨lp, hp, hlp⟩ := s.plow
  have hB := s.hB
  have hn := s.hn
  have hpp : 0 < B ^ (n - 2) := Nat.pow_pos (by omega)
  have h1 : g * (top * B + next) ≤ head * B + u2 := by
    rw [← hg, Nat.add_mul, Nat.mul_add, Nat.mul_assoc]
    rcases h with h | h
    · have h3 : g * next ≤ B * B := Nat.mul_le_mul hgB (Nat.le_of_lt s.nextB)
      have h4 : B * B ≤ r * B := Nat.mul_le_mul_right _ h
      omega
    · omega
  have hVtop : B * B ^ (n - 2) ≤ V := by
    have : B ≤ top * B := Nat.le_mul_of_pos_left _ (by have := s.half; omega)
    have := Nat.mul_le_mul_right (B ^ (n - 2)) (show B ≤ top * B + next by omega)
    omega
  generalize B ^ (n - 2) = p at hv hlv hp hlp hpp hVtop
  have h2 := Nat.mul_le_mul_right p h1
  have h5 : g * V ≤ g * ((top * B + next) * p) + g * p := by
    rw [hv, Nat.mul_add]; exact Nat.add_le_add_left (Nat.mul_le_mul_left _ (Nat.le_of_lt hlv)) _
  have h6 : g * p ≤ B * p := Nat.mul_le_mul_right _ hgB
  rw [← Nat.mul_assoc] at h5
  omega

/-- The first guess. -/
theorem first (s : Step B n V P top next head u2) : head / top ≤ B + 1 ∧ P / V ≤ head / top := by
  have hB := s.hB
  have ht : 0 < top := by have := s.half; omega
  obtain ⟨lv, hv, hlv⟩ := s.vlow
  obtain ⟨lp, hp, hlp⟩ := s.plow
  have hlt := s.lt
  have hnext := s.nextB
  have hu2 := s.u2B
  constructor
  · have h1 : head ≤ top * B + next := by
      rcases Nat.lt_or_ge (top * B + next) head with h | h
      · exfalso
        have h2 := Nat.mul_le_mul_right (B ^ (n - 2)) (Nat.mul_le_mul_right B h)
        have h3 : (top * B + next + 1) * B * B ^ (n - 2) = ((top * B + next) * B ^ (n - 2) + B ^ (n - 2)) * B := by
          generalize B ^ (n - 2) = p
          grind
        rw [Nat.succ_eq_add_one, h3] at h2
        have h4 : V * B ≤ ((top * B + next) * B ^ (n - 2) + B ^ (n - 2)) * B := Nat.mul_le_mul_right _ (by omega)
        have h5 : head * B * B ^ (n - 2) ≤ P := by
          rw [hp, Nat.add_mul]; omega
        omega
      · exact h
    have h2 : head < (B + 2) * top := by
      have := s.half
      have : (B + 2) * top = top * B + 2 * top := by rw [Nat.add_mul, Nat.mul_comm B]
      omega
    have := (Nat.div_lt_iff_lt_mul ht).2 h2
    omega
  · have : P / V < head / top + 1 := by
      rw [Nat.div_lt_iff_lt_mul s.vpos]
      have h1 : head < (head / top + 1) * top := by
        have := Nat.div_add_mod head top
        have := Nat.mod_lt head ht
        rw [Nat.add_mul, Nat.one_mul, Nat.mul_comm (head / top)]
        omega
      have h2 : head + 1 ≤ (head / top + 1) * top := h1
      have h3 := Nat.mul_le_mul_right (B ^ (n - 2)) (Nat.mul_le_mul_right B h2)
      have h4 : (head / top + 1) * top * B * B ^ (n - 2) ≤ (head / top + 1) * V := by
        rw [Nat.mul_assoc, Nat.mul_assoc]
        refine Nat.mul_le_mul_left _ ?_
        rw [hv, Nat.add_mul, ← Nat.mul_assoc]
        omega
      have h5 : P < (head + 1) * B * B ^ (n - 2) := by
        rw [hp]
        have : (head * B + u2 + 1) * B ^ (n - 2) ≤ (head + 1) * B * B ^ (n - 2) := Nat.mul_le_mul_right _ (by rw [Nat.add_mul, Nat.one_mul]; omega)
        rw [Nat.add_mul, Nat.one_mul] at this
        omega
      omega
    omega

/-- What 'remove' leaves. -/
theorem left (s : Step B n V P top next head u2) {g : Nat} (h1 : P / V ≤ g) (h2 : g * V ≤ P + V) :
    (P < g * V → g = P / V + 1) ∧ (¬ P < g * V → g = P / V) := by
  have hv := s.vpos
  have e := Nat.div_add_mod P V
  have m := Nat.mod_lt P hv
  constructor
  · intro h
    have h3 : g ≤ P / V + 1 := by
      rcases Nat.lt_or_ge (P / V + 1) g with h4 | h4
      · exfalso
        have := Nat.mul_le_mul_right V (show P / V + 2 ≤ g from h4)
        rw [Nat.add_mul, Nat.mul_comm (P / V)] at this
        omega
      · exact h4
    have h5 : P / V < g := by rw [Nat.div_lt_iff_lt_mul hv]; exact h
    omega
  · intro h
    have : g ≤ P / V := by rw [Nat.le_div_iff_mul_le hv]; omega
    omega

theorem quot (s : Step B n V P top next head u2) : P / V < B := by
  rw [Nat.div_lt_iff_lt_mul s.vpos, Nat.mul_comm]; exact s.lt
end Step

theorem dig_take (n k X : Nat) : (dig (n + k) X).take n = dig n X := by
  rw [dig_append, List.take_append_of_le_length (by rw [dig_length]; exact Nat.le_refl _), List.take_of_length_le (by rw [dig_length]; exact Nat.le_refl _)]

theorem bitLen_log {t : Nat} (h0 : 0 < t) (h : t < 4294967296) : Lib.bitLen t = Nat.log2 t + 1 := by
  have h1 : 2 ^ Nat.log2 t ≤ t := Nat.log2_self_le (by omega)
  have h2 : t < 2 ^ (Nat.log2 t + 1) := Nat.lt_log2_self
  rw [Lib.bitLen_shift _ _ h1 (by omega)]
  have : t / 2 ^ Nat.log2 t = 1 := by
    rw [Nat.pow_succ] at h2
    have hp : 0 < 2 ^ Nat.log2 t := Nat.pow_pos (by omega)
    generalize 2 ^ Nat.log2 t = p at h1 h2 hp
    have a : t / p < 2 := (Nat.div_lt_iff_lt_mul hp).2 (by omega)
    have b : 1 ≤ t / p := (Nat.le_div_iff_mul_le hp).2 (by omega)
    omega
  rw [this]; rfl

/-- The shift that makes the highest bit of a word 1. -/
theorem lz_spec {t : Nat} (h0 : 0 < t) (h : t < 4294967296) : ∃ s : Nat, s < 32 ∧ (32 - (Lib.bitLen t : Int)) = s ∧ 2147483648 ≤ t * 2 ^ s ∧ (t + 1) * 2 ^ s ≤ 4294967296 := by
  have h1 : 2 ^ Nat.log2 t ≤ t := Nat.log2_self_le (by omega)
  have h2 : t < 2 ^ (Nat.log2 t + 1) := Nat.lt_log2_self
  have hl : Nat.log2 t < 32 := by rw [Nat.log2_lt (by omega)]; exact h
  rw [bitLen_log h0 h]
  refine ⟨31 - Nat.log2 t, by omega, by omega, ?_, ?_⟩
  · have := Nat.mul_le_mul_right (2 ^ (31 - Nat.log2 t)) h1
    rw [← Nat.pow_add, show Nat.log2 t + (31 - Nat.log2 t) = 31 by omega] at this
    exact this
  · have := Nat.mul_le_mul_right (2 ^ (31 - Nat.log2 t)) (show t + 1 ≤ _ from h2)
    rw [← Nat.pow_add, show Nat.log2 t + 1 + (31 - Nat.log2 t) = 32 by omega] at this
    exact this

/-- The divisor, shifted. -/
theorem shifted {y : List Nat} {s : Nat} (hy : WL y) (hn : 0 < y.length) (h1 : 2147483648 ≤ y.getD (y.length - 1) 0 * 2 ^ s) (h2 : (y.getD (y.length - 1) 0 + 1) * 2 ^ s ≤ 4294967296) :
    val y * 2 ^ s < 4294967296 ^ y.length ∧ 4294967296 ^ y.length ≤ 2 * (val y * 2 ^ s) := by
  have e := val_split y (y.length - 1) (by omega)
  rw [List.drop_of_length_le (by omega), val_nil, Nat.mul_zero, Nat.add_zero] at e
  have hl := val_lt (WL_take hy (y.length - 1))
  rw [List.length_take, Nat.min_eq_left (by omega)] at hl
  rw [e, pow_pred hn]
  generalize y.getD (y.length - 1) 0 = t at *
  generalize 4294967296 ^ (y.length - 1) = p at *
  generalize val (y.take (y.length - 1)) = v at *
  have hs : 0 < 2 ^ s := Nat.pow_pos (by omega)
  generalize 2 ^ s = q at *
  have a1 := Nat.mul_le_mul_left p h1
  have a2 := Nat.mul_le_mul_left p h2
  have a3 := (Nat.mul_lt_mul_right hs).2 hl
  rw [Nat.add_mul, Nat.one_mul, Nat.mul_add] at a2
  rw [Nat.add_mul, Nat.mul_assoc p t q]
  constructor
  · omega
  · have : 2 * (p * 2147483648) = p * (2 * 2147483648) := Nat.mul_left_comm _ _ _
    rw [show 2 * 2147483648 = 4294967296 from rfl] at this
    rw [← this]
    exact Nat.mul_le_mul_left 2 (Nat.le_trans a1 (Nat.le_add_left _ _))

theorem start_lt {x y : List Nat} {s : Nat} (hx : WL x) (hs : s < 32) (hV : 4294967296 ^ y.length ≤ 2 * (val y * 2 ^ s)) (hl : y.length ≤ x.length + 1) :
    val x * 2 ^ s < val y * 2 ^ s * 4294967296 ^ (x.length + 1 - y.length) := by
  have h1 := val_lt hx
  have h2 := pow2_lt hs
  have h3 : 4294967296 ^ x.length * 4294967296 = 4294967296 ^ y.length * 4294967296 ^ (x.length + 1 - y.length) := by
    rw [← Nat.pow_succ, ← Nat.pow_add]; congr 1; omega
  have h4 := Nat.mul_le_mul_right (4294967296 ^ (x.length + 1 - y.length)) hV
  rw [← h3, Nat.mul_assoc] at h4
  have h5 : val x * 2 ^ s < 4294967296 ^ x.length * 2147483648 :=
    Nat.lt_of_lt_of_le ((Nat.mul_lt_mul_right (Nat.pow_pos (by omega))).2 h1) (Nat.mul_le_mul_left _ h2)
  omega

/-- What a step of the division knows of the words that it reads. -/
theorem step_of {n V P : Nat} (hn : 2 ≤ n) (hV1 : V < 4294967296 ^ n) (hV2 : 4294967296 ^ n ≤ 2 * V) (hP : P < V * 4294967296) :
    Step 4294967296 n V P (V / 4294967296 ^ (n - 1) % 4294967296) (V / 4294967296 ^ (n - 2) % 4294967296) (P / 4294967296 ^ n % 4294967296 * 4294967296 + P / 4294967296 ^ (n - 1) % 4294967296) (P / 4294967296 ^ (n - 2) % 4294967296) := by
  have e1 : 4294967296 ^ n = 4294967296 ^ (n - 1) * 4294967296 := pow_pred (by omega)
  have e2 : 4294967296 ^ (n - 1) = 4294967296 ^ (n - 2) * 4294967296 := by rw [pow_pred (show 0 < n - 1 by omega), show n - 1 - 1 = n - 2 by omega]
  have hp := pow_pos (n - 2)
  have ht : V / 4294967296 ^ (n - 1) < 4294967296 := by
    rw [Nat.div_lt_iff_lt_mul (pow_pos _), Nat.mul_comm, ← e1]; exact hV1
  have hh : P / 4294967296 ^ n < 4294967296 := by
    rw [Nat.div_lt_iff_lt_mul (pow_pos _)]
    have := (Nat.mul_lt_mul_right (show 0 < 4294967296 by omega)).2 hV1
    rw [Nat.mul_comm (4294967296 ^ n)] at this
    omega
  have q1 : V / 4294967296 ^ (n - 1) = V / 4294967296 ^ (n - 2) / 4294967296 := by rw [e2, Nat.div_div_eq_div_mul]
  have q2 : P / 4294967296 ^ (n - 1) = P / 4294967296 ^ (n - 2) / 4294967296 := by rw [e2, Nat.div_div_eq_div_mul]
  have q3 : P / 4294967296 ^ n = P / 4294967296 ^ (n - 1) / 4294967296 := by rw [e1, Nat.div_div_eq_div_mul]
  refine ⟨by omega, hn, ⟨V % 4294967296 ^ (n - 2), ?_, Nat.mod_lt _ hp⟩, ⟨P % 4294967296 ^ (n - 2), ?_, Nat.mod_lt _ hp⟩, Nat.mod_lt _ (by omega), Nat.mod_lt _ (by omega), ?_, Nat.mod_lt _ (by omega), hP⟩
  · rw [Nat.mod_eq_of_lt ht, q1]
    rw [Nat.div_add_mod' (V / 4294967296 ^ (n - 2)), Nat.mul_comm]
    exact (Nat.div_add_mod _ _).symm
  · rw [Nat.mod_eq_of_lt hh, q3, q2]
    rw [Nat.div_add_mod' (P / 4294967296 ^ (n - 2) / 4294967296), Nat.div_add_mod' (P / 4294967296 ^ (n - 2)), Nat.mul_comm]
    exact (Nat.div_add_mod _ _).symm
  · rw [Nat.mod_eq_of_lt ht]
    have : 2147483648 ≤ V / 4294967296 ^ (n - 1) := by
      rw [Nat.le_div_iff_mul_le (pow_pos _)]
      rw [e1] at hV2
      generalize 4294967296 ^ (n - 1) = p at hV2 ⊢
      omega
    omega

theorem ordN_nlt {a b : Nat} (h : ¬ a < b) : (ordN a b < 0) = False := by
  unfold ordN; rw [if_neg h]; split <;> simp

theorem head_eq {a b : Nat} (hb : b < 4294967296) : (a % 4294967296 * 4294967296) ||| b = a % 4294967296 * 4294967296 + b := or32 _ _ hb

/-- One step of the division: what the number becomes. -/
theorem div_step {j X V A q Q : Nat} (hV : 0 < V) (hA : A = X + V * 4294967296 ^ (j + 1) * Q) (hq : q = X / 4294967296 ^ j / V) :
    A = (X % 4294967296 ^ j + 4294967296 ^ j * (X / 4294967296 ^ j % V)) + V * 4294967296 ^ j * (q + 4294967296 * Q) ∧ X % 4294967296 ^ j + 4294967296 ^ j * (X / 4294967296 ^ j % V) < V * 4294967296 ^ j := by
  have hp := pow_pos j
  rw [Nat.pow_succ] at hA
  generalize 4294967296 ^ j = p at *
  have e1 := Nat.div_add_mod X p
  have e2 := Nat.div_add_mod (X / p) V
  have m1 := Nat.mod_lt X hp
  have m2 := Nat.mod_lt (X / p) hV
  rw [← hq] at e2
  generalize X % p = r at *
  generalize hS : X / p % V = S at *
  generalize X / p = Z at *
  generalize 4294967296 = B at hA ⊢
  subst hA e2 e1
  constructor
  · grind
  · have : p * (S + 1) ≤ p * V := Nat.mul_le_mul_left _ m2
    rw [Nat.mul_add, Nat.mul_one] at this
    rw [Nat.mul_comm V]; omega

theorem dig_addpow (k X : Nat) : dig k (X + 4294967296 ^ k) = dig k X := by
  rw [← dig_mod, Nat.add_mod_right, dig_mod]

/-- What is left, as a list: without and with a step back. -/
theorem left_0 {k P V g : Nat} (hg : g = P / V) : dig k (P + 4294967296 ^ k - g * V) = dig k (P % V) := by
  have e : g * V + P % V = P := by rw [hg, Nat.mul_comm]; exact Nat.div_add_mod P V
  clear hg
  generalize P % V = r at *
  generalize hp : 4294967296 ^ k = p
  rw [show P + p - g * V = r + p by omega, ← hp, dig_addpow]

theorem left_1 {k P V g : Nat} (hg : g = P / V + 1) (hb : P < g * V) (hk : g * V < 4294967296 ^ k) : dig k (val (dig k (P + 4294967296 ^ k - g * V)) + V) = dig k (P % V) := by
  have e : P / V * V + P % V = P := by rw [Nat.mul_comm]; exact Nat.div_add_mod P V
  have : g * V = P / V * V + V := by rw [hg, Nat.add_mul, Nat.one_mul]
  rw [val_dig, Nat.mod_eq_of_lt (by omega)]
  clear hg
  generalize P / V * V = q at *
  generalize P % V = r at *
  generalize g * V = gv at *
  generalize hp : 4294967296 ^ k = p at *
  rw [show P + p - gv + V = r + p by omega, ← hp, dig_addpow]

theorem mul_lt64' {a b : Nat} (ha : a < 4294967296) (hb : b < 4294967296) : a * b < 18446744073709551616 := by
  have h := mul_lt64 ha hb (c := 0) (d := 0) (by decide) (by decide)
  rwa [Nat.zero_add, Nat.add_zero] at h

theorem sub64_succ {q : Nat} (h : q < 4294967296) : sub64 (q + 1) 1 = q := by rw [sub64_le (by omega) (by omega)]; omega

theorem shl_mod {r : Nat} (h : r < 4294967296) : r * 4294967296 % 18446744073709551616 = r * 4294967296 := by omega

end Go.Num
end

/-
  The program's lists of words: the long division.
-/
section
set_option linter.unusedVariables false
set_option linter.unusedSimpArgs false
set_option maxRecDepth 100000
namespace Go.Abs
open Go.Num

variable {P : Program} {Γ : Nat → Spec}

/-- linkwork/integer.divide (158) [.tmp 4, .tmp 5] -/
def ac_integer_divide (f_integer_compare f_integer_trim f_integer_short f_math_bits_LeadingZeros32 f_integer_up f_integer_remove f_integer_back f_integer_down : Nat) : AC := (.seq (.ops false [⟨some 4, none, .mv (.c (.one .emp))⟩, ⟨some 5, none, .mv (.c (.one .emp))⟩])
 (.fg [0, 1] (.seq (.seq (.ops false [⟨some 19, none, .mv (.t 0)⟩, ⟨some 20, none, .mv (.t 1)⟩, ⟨some 21, none, .call f_integer_compare [(.t 19), (.t 20)]⟩, ⟨some 22, none, .bin .lss (.t 21) (.c (.one (.lit (.int .i64 0))))⟩])
 (.fg [0, 1, 22] (.cond (.t 22) (.seq (.ops false [⟨some 23, none, .mv (.t 0)⟩, ⟨some 24, none, .call f_integer_trim [(.t 23)]⟩, ⟨some 4, none, .mv (.c (.one .emp))⟩, ⟨some 5, none, .mv (.t 24)⟩])
 .ret) .skip)))
 (.fg [0, 1] (.seq (.seq (.ops false [⟨some 25, none, .mv (.t 1)⟩, ⟨some 26, none, .len (.t 25)⟩, ⟨some 27, none, .bin .eql (.t 26) (.c (.one (.lit (.int .i64 1))))⟩])
 (.fg [0, 1, 27] (.cond (.t 27) (.seq (.ops false [⟨some 29, none, .mv (.t 0)⟩, ⟨some 30, none, .mv (.t 1)⟩, ⟨some 31, none, .idx 1 (.t 30) (.c (.one (.lit (.int .i64 0))))⟩, ⟨some 32, none, .ld none 1 false (.t 31)⟩, ⟨some 33, none, .call f_integer_short [(.t 29), (.t 32)]⟩, ⟨some 28, none, .mv (.t 33)⟩, ⟨some 34, none, .ext 0 (.t 28)⟩, ⟨some 35, none, .ext 1 (.t 28)⟩, ⟨some 6, none, .mv (.t 34)⟩, ⟨some 7, none, .mv (.t 35)⟩])
 (.fg [6, 7] (.seq (.ops false [⟨some 36, none, .mv (.t 6)⟩, ⟨some 37, none, .mv (.t 7)⟩, ⟨some 38, none, .row 1 [[.x 1 (.t 37)]]⟩, ⟨some 39, none, .call f_integer_trim [(.t 38)]⟩, ⟨some 4, none, .mv (.t 36)⟩, ⟨some 5, none, .mv (.t 39)⟩])
 .ret))) .skip)))
 (.fg [0, 1] (.seq (.ops false [⟨some 40, none, .mv (.t 1)⟩, ⟨some 41, none, .mv (.t 1)⟩, ⟨some 42, none, .len (.t 41)⟩, ⟨some 43, none, .bin .sub (.t 42) (.c (.one (.lit (.int .i64 1))))⟩, ⟨some 44, none, .idx 1 (.t 40) (.t 43)⟩, ⟨some 45, none, .ld none 1 false (.t 44)⟩, ⟨some 46, none, .call f_math_bits_LeadingZeros32 [(.t 45)]⟩, ⟨some 8, none, .mv (.t 46)⟩])
 (.fg [0, 1, 8] (.seq (.ops true [⟨some 47, none, .mv (.t 1)⟩, ⟨some 48, none, .mv (.t 8)⟩, ⟨some 49, none, .callf f_integer_up [(.t 47), (.t 48)]⟩, ⟨some 50, none, .mv (.t 1)⟩, ⟨some 51, none, .len (.t 50)⟩, ⟨some 52, none, .sl 1 (.t 49) none (some (.t 51))⟩, ⟨some 53, none, .mv (.t 0)⟩, ⟨some 54, none, .mv (.t 8)⟩, ⟨some 55, none, .callf f_integer_up [(.t 53), (.t 54)]⟩, ⟨some 9, none, .mv (.t 52)⟩, ⟨some 10, none, .mv (.t 55)⟩])
 (.fg [8, 9, 10] (.fz [9] (.seq (.ops false [⟨some 56, none, .mv (.t 10)⟩, ⟨some 57, none, .len (.t 56)⟩, ⟨some 58, none, .mv (.t 9)⟩, ⟨some 59, none, .len (.t 58)⟩, ⟨some 60, none, .bin .sub (.t 57) (.t 59)⟩, ⟨some 61, none, .mk 1 [(.lit (.int .u32 0))] (.t 60) (.t 60)⟩, ⟨some 11, none, .mv (.t 61)⟩])
 (.fg [8, 9, 10, 11] (.seq (.ops true [⟨some 62, none, .mv (.t 9)⟩, ⟨some 63, none, .mv (.t 9)⟩, ⟨some 64, none, .len (.t 63)⟩, ⟨some 65, none, .bin .sub (.t 64) (.c (.one (.lit (.int .i64 1))))⟩, ⟨some 66, none, .idx 1 (.t 62) (.t 65)⟩, ⟨some 67, none, .ld none 1 false (.t 66)⟩, ⟨some 68, none, .conv .u64 (.t 67)⟩, ⟨some 69, none, .mv (.t 9)⟩, ⟨some 70, none, .mv (.t 9)⟩, ⟨some 71, none, .len (.t 70)⟩, ⟨some 72, none, .bin .sub (.t 71) (.c (.one (.lit (.int .i64 2))))⟩, ⟨some 73, none, .idx 1 (.t 69) (.t 72)⟩, ⟨some 74, none, .ld none 1 false (.t 73)⟩, ⟨some 75, none, .conv .u64 (.t 74)⟩, ⟨some 12, none, .mv (.t 68)⟩, ⟨some 13, none, .mv (.t 75)⟩])
 (.fg [8, 9, 10, 11, 12, 13] (.seq (.seq (.ops false [⟨some 76, none, .mv (.t 11)⟩, ⟨some 77, none, .len (.t 76)⟩, ⟨some 78, none, .bin .sub (.t 77) (.c (.one (.lit (.int .i64 1))))⟩, ⟨some 14, none, .mv (.t 78)⟩])
 (.fg [8, 9, 10, 11, 12, 13, 14] (.block 0 (.loop (.seq (.seq (.ops false [⟨some 79, none, .mv (.t 14)⟩, ⟨some 80, none, .bin .geq (.t 79) (.c (.one (.lit (.int .i64 0))))⟩])
 (.fg [8, 9, 10, 11, 12, 13, 14, 80] (.cond (.t 80) .skip (.exit 0))))
 (.fg [8, 9, 10, 11, 12, 13, 14] (.seq (.block 1 (.seq (.ops false [⟨some 83, none, .mv (.t 10)⟩, ⟨some 84, none, .mv (.t 14)⟩, ⟨some 85, none, .mv (.t 14)⟩, ⟨some 86, none, .mv (.t 9)⟩, ⟨some 87, none, .len (.t 86)⟩, ⟨some 88, none, .bin .add (.t 85) (.t 87)⟩, ⟨some 89, none, .bin .add (.t 88) (.c (.one (.lit (.int .i64 1))))⟩, ⟨some 90, none, .sl 1 (.t 83) (some (.t 84)) (some (.t 89))⟩, ⟨some 15, none, .mv (.t 90)⟩])
 (.fg [8, 9, 10, 11, 12, 13, 14, 15] (.seq (.ops true [⟨some 91, none, .mv (.t 15)⟩, ⟨some 92, none, .mv (.t 9)⟩, ⟨some 93, none, .len (.t 92)⟩, ⟨some 94, none, .idx 1 (.t 91) (.t 93)⟩, ⟨some 95, none, .ld none 1 false (.t 94)⟩, ⟨some 96, none, .conv .u64 (.t 95)⟩, ⟨some 97, none, .bin .shl (.t 96) (.c (.one (.lit (.int .u64 32))))⟩, ⟨some 98, none, .mv (.t 15)⟩, ⟨some 99, none, .mv (.t 9)⟩, ⟨some 100, none, .len (.t 99)⟩, ⟨some 101, none, .bin .sub (.t 100) (.c (.one (.lit (.int .i64 1))))⟩, ⟨some 102, none, .idx 1 (.t 98) (.t 101)⟩, ⟨some 103, none, .ld none 1 false (.t 102)⟩, ⟨some 104, none, .conv .u64 (.t 103)⟩, ⟨some 105, none, .bin .or (.t 97) (.t 104)⟩, ⟨some 16, none, .mv (.t 105)⟩])
 (.fg [8, 9, 10, 11, 12, 13, 14, 15, 16] (.seq (.ops true [⟨some 106, none, .mv (.t 16)⟩, ⟨some 107, none, .mv (.t 12)⟩, ⟨some 108, none, .bin .quo (.t 106) (.t 107)⟩, ⟨some 109, none, .mv (.t 16)⟩, ⟨some 110, none, .mv (.t 12)⟩, ⟨some 111, none, .bin .rem (.t 109) (.t 110)⟩, ⟨some 17, none, .mv (.t 108)⟩, ⟨some 18, none, .mv (.t 111)⟩])
 (.fg [8, 9, 10, 11, 12, 13, 14, 15, 17, 18] (.seq (.block 2 (.loop (.seq (.seq (.ops false [⟨some 112, none, .mv (.t 18)⟩, ⟨some 113, none, .bin .lss (.t 112) (.c (.one (.lit (.int .u64 4294967296))))⟩, ⟨some 114, none, .mv (.t 113)⟩, ⟨some 115, some (114, true), .mv (.t 17)⟩, ⟨some 116, some (114, true), .bin .geq (.t 115) (.c (.one (.lit (.int .u64 4294967296))))⟩, ⟨some 117, some (114, true), .mv (.t 116)⟩, ⟨some 118, some (117, false), .mv (.t 17)⟩, ⟨some 119, some (117, false), .mv (.t 13)⟩, ⟨some 120, some (117, false), .bin .mul (.t 118) (.t 119)⟩, ⟨some 121, some (117, false), .mv (.t 18)⟩, ⟨some 122, some (117, false), .bin .shl (.t 121) (.c (.one (.lit (.int .u64 32))))⟩, ⟨some 123, some (117, false), .mv (.t 15)⟩, ⟨some 124, some (117, false), .mv (.t 9)⟩, ⟨some 125, some (117, false), .len (.t 124)⟩, ⟨some 126, some (117, false), .bin .sub (.t 125) (.c (.one (.lit (.int .i64 2))))⟩, ⟨some 127, some (117, false), .idx 1 (.t 123) (.t 126)⟩, ⟨some 128, some (117, false), .ld none 1 false (.t 127)⟩, ⟨some 129, some (117, false), .conv .u64 (.t 128)⟩, ⟨some 130, some (117, false), .bin .or (.t 122) (.t 129)⟩, ⟨some 131, some (117, false), .bin .gtr (.t 120) (.t 130)⟩, ⟨some 132, some (114, true), .pick (.t 117) (.c (.one (.lit (.bool true)))) (.t 131)⟩, ⟨some 133, none, .pick (.t 114) (.t 132) (.c (.one (.lit (.bool false))))⟩])
 (.fg [8, 9, 10, 11, 12, 13, 14, 15, 17, 18, 133] (.cond (.t 133) .skip (.exit 2))))
 (.fg [8, 9, 10, 11, 12, 13, 14, 15, 17, 18] (.block 3 (.seq (.ops false [⟨some 134, none, .mv (.t 17)⟩, ⟨some 135, none, .bin .sub (.t 134) (.c (.one (.lit (.int .u64 1))))⟩, ⟨some 17, none, .mv (.t 135)⟩])
 (.fg [8, 9, 10, 11, 12, 13, 14, 15, 17, 18] (.ops false [⟨some 136, none, .mv (.t 18)⟩, ⟨some 137, none, .mv (.t 12)⟩, ⟨some 138, none, .bin .add (.t 136) (.t 137)⟩, ⟨some 18, none, .mv (.t 138)⟩]))))))))
 (.fg [8, 9, 10, 11, 12, 13, 14, 15, 17] (.seq (.seq (.ops false [⟨some 139, none, .mv (.t 15)⟩, ⟨some 140, none, .mv (.t 9)⟩, ⟨some 141, none, .mv (.t 17)⟩, ⟨some 142, none, .call f_integer_remove [(.t 139), (.t 140), (.t 141)]⟩])
 (.fg [8, 9, 10, 11, 12, 13, 14, 15, 17, 142] (.cond (.t 142) (.seq (.ops false [⟨some 143, none, .mv (.t 17)⟩, ⟨some 144, none, .bin .sub (.t 143) (.c (.one (.lit (.int .u64 1))))⟩, ⟨some 17, none, .mv (.t 144)⟩])
 (.fg [8, 9, 10, 11, 12, 13, 14, 15, 17] (.ops false [⟨some 145, none, .mv (.t 15)⟩, ⟨some 146, none, .mv (.t 9)⟩, ⟨some 147, none, .call f_integer_back [(.t 145), (.t 146)]⟩]))) .skip)))
 (.fg [8, 9, 10, 11, 12, 13, 14, 17] (.ops false [⟨some 148, none, .mv (.t 11)⟩, ⟨some 149, none, .mv (.t 14)⟩, ⟨some 150, none, .mv (.t 17)⟩, ⟨some 151, none, .conv .u32 (.t 150)⟩, ⟨some 152, none, .idx 1 (.t 148) (.t 149)⟩, ⟨none, none, .st none 1 (.t 152) (.t 151)⟩]))))))))))))
 (.fg [8, 9, 10, 11, 12, 13, 14] (.ops false [⟨some 81, none, .mv (.t 14)⟩, ⟨some 82, none, .bin .sub (.t 81) (.c (.one (.lit (.int .i64 1))))⟩, ⟨some 14, none, .mv (.t 82)⟩])))))))))
 (.fg [8, 10, 11] (.seq (.ops false [⟨some 153, none, .mv (.t 11)⟩, ⟨some 154, none, .call f_integer_trim [(.t 153)]⟩, ⟨some 155, none, .mv (.t 10)⟩, ⟨some 156, none, .mv (.t 8)⟩, ⟨some 157, none, .call f_integer_down [(.t 155), (.t 156)]⟩, ⟨some 4, none, .mv (.t 154)⟩, ⟨some 5, none, .mv (.t 157)⟩])
 .ret))))))))))))))))))


set_option maxHeartbeats 4000000 in
theorem divide_sound (hΓ : Holds P Γ) {f fcmp ftrim fshort flz fup frem fback fdown : Nat} (h1 : Γ fcmp = .dat false compare_G) (h2 : Γ ftrim = .dat false trim_G) (h3 : Γ fshort = .dat false short_G) (h4 : Γ flz = .dat true lz_G)
    (h5 : Γ fup = .fresh 1 up_G) (h6 : Γ frem = .own remove_G) (h7 : Γ fback = .own back_G) (h8 : Γ fdown = .dat false down_G)
    (hc : check P f = some (158, (ac_integer_divide fcmp ftrim fshort flz fup frem fback fdown).strip, [.tmp 4, .tmp 5])) : Sound P f (.dat false divide_G) := by
  refine sound_dat hc divide_good hΓ (fun args K hcl hfi hG => ?_)
  match args, hG with
  | [a, b], hG =>
    obtain ⟨x, rfl, hx, y, rfl, hy, hzx, hzy, hy0, hxl, hyl, hK⟩ := hG
    refine ⟨by simp, ?_⟩
    have hn : 0 < y.length := by cases y with | nil => exact (hy0 rfl).elim | cons => simp
    have ht0 : y.getD (y.length - 1) 0 ≠ 0 := by
      intro e
      refine hzy ?_
      rw [List.getLast?_eq_getElem?]
      rw [List.getD_eq_getElem?_getD, List.getElem?_eq_getElem (by omega)] at e
      rw [List.getElem?_eq_getElem (by omega)]
      simpa using e
    have htB := WL_getD hy (y.length - 1)
    obtain ⟨s, hs32, hs, hs1, hs2⟩ := lz_spec (Nat.pos_of_ne_zero ht0) htB
    have hlast : ((y.length : Int) - 1).toNat = y.length - 1 := by omega
    have hle : (y.length ≤ y.length + 1) = True := eq_true (by omega)
    obtain ⟨hV1, hV2⟩ := shifted hy hn hs1 hs2
    by_cases hlt : val x < val y
    · simp only [go_sem, ↓reduceIte, Nat.reduceEqDiff, Nat.reduceAdd, Nat.reduceLT, Nat.reduceLeDiff, Int.reduceToNat, Nat.reducePow, Nat.reduceMul, reduceCtorEq, ac_integer_divide, h1, h2, h3, h4, h5, h8, ordN_lt hlt]
      refine ⟨hx, hy, hzx, hzy, fun _ => ⟨hx, by omega, ?_⟩, fun h => absurd (show (-1 : Int) < 0 by omega) h⟩
      rw [Nat.div_eq_of_lt hlt, Nat.mod_eq_of_lt hlt, digs_zero] at hK
      exact hK
    have hlen : y.length ≤ x.length := by
      rcases Nat.lt_or_ge x.length y.length with h | h
      · exact absurd (lt_of_len hx hzy h) hlt
      · exact h
    obtain ⟨M, hM⟩ : ∃ M, M = x.length + 1 - y.length := ⟨_, rfl⟩
    have hM2 : ((x.length + 1 : Nat) : Int) - (y.length : Int) = (M : Int) := by omega
    simp only [go_sem, ↓reduceIte, Nat.reduceEqDiff, Nat.reduceAdd, Nat.reduceLT, Nat.reduceLeDiff, Int.reduceToNat, Nat.reducePow, Nat.reduceMul, reduceCtorEq, ac_integer_divide, h1, h2, h3, h4, h5, h8, hlast, hs, dig_length, dig_take, hle, ordN_nlt hlt, hM2]
    refine ⟨hx, hy, hzx, hzy, fun _ => ⟨fun hone => ?_, fun hone => ?_⟩⟩
    · have hone : y.length = 1 := by omega
      match y, hone with
      | [t], _ =>
        simp only [List.length_singleton, Nat.sub_self, List.getD_cons_zero] at ht0 htB ⊢
        refine ⟨by omega, by omega, hx, by omega, by omega, by omega, WL_cons.2 ⟨Nat.lt_trans (Nat.mod_lt _ (by omega)) htB, WL_nil⟩, ?_⟩
        simpa [val] using hK
    have hone : 2 ≤ y.length := by omega
    generalize hV : val y * 2 ^ s = V at hV1 hV2
    generalize hA : val x * 2 ^ s = A
    generalize hnn : y.length = n at *
    generalize hLL : x.length + 1 = L at *
    have hV0 : 0 < V := by have := pow_pos n; omega
    have htop : (dig n V).getD (n - 1) 0 = V / 4294967296 ^ (n - 1) % 4294967296 := dig_get _ _ _ (by omega)
    have hnext : (dig n V).getD ((n : Int) - 2).toNat 0 = V / 4294967296 ^ (n - 2) % 4294967296 := by
      rw [show ((n : Int) - 2).toNat = n - 2 by omega]; exact dig_get _ _ _ (by omega)
    have hvv : val (dig n V) = V := by rw [val_dig, Nat.mod_eq_of_lt hV1]
    repeat (first | (refine And.intro (by omega) ?_) | (refine And.intro (by assumption) ?_) | (refine And.intro rfl ?_) | (refine And.intro ⟨rfl, by omega⟩ ?_) | (refine And.intro ⟨rfl, by omega, by omega⟩ ?_) | (intro _))
    obtain ⟨top, htd⟩ : ∃ t, t = V / 4294967296 ^ (n - 1) % 4294967296 := ⟨_, rfl⟩
    obtain ⟨next, hnd⟩ : ∃ t, t = V / 4294967296 ^ (n - 2) % 4294967296 := ⟨_, rfl⟩
    have htB : top < 4294967296 := by rw [htd]; exact Nat.mod_lt _ (by omega)
    have hnB : next < 4294967296 := by rw [hnd]; exact Nat.mod_lt _ (by omega)
    rw [htop, hnext, ← htd, ← hnd, Nat.mod_eq_of_lt (show top < 18446744073709551616 by omega), Nat.mod_eq_of_lt (show next < 18446744073709551616 by omega)]
    have hstart := start_lt hx hs32 (y := y) (by rw [hnn, hV]; exact hV2) (by omega)
    rw [hV, hA, hLL, hnn, ← hM] at hstart
    refine wpA_loop (fun p : Nat × Nat × List Nat => ⟨mkV [(8, .one (.lit (.int .i64 s))), (9, wsA (dig n V)), (10, .one (.own 55 1 1 0 L)), (11, .one (.own 61 1 1 0 M)), (12, .one (.lit (.int .u64 top))), (13, .one (.lit (.int .u64 next))), (14, .one (.lit (.int .i64 ((p.1 : Int) - 1))))],
        mkH [(55, ⟨1, some ⟨(dig L p.2.1).map wc, 1, true⟩⟩), (61, ⟨1, some ⟨(List.replicate p.1 0 ++ p.2.2).map wc, 1, true⟩⟩)]⟩)
      (fun p => p.1 ≤ M ∧ p.2.1 < V * 4294967296 ^ p.1 ∧ A = p.2.1 + V * 4294967296 ^ p.1 * val p.2.2 ∧ WL p.2.2 ∧ p.2.2.length = M - p.1) (fun p => p.1) (M, A, []) ?_ ?_ ?_
    · exact weak_lit (by simp [okS, okV, okC, okL, okH, okB, okE, mkV_cons, mkV_nil, mkH_cons, mkH_nil, wsA, ws]) ⟨okB_wc rfl, okB_wc (by simp), trivial⟩
    · exact ⟨Nat.le_refl _, hstart, by simp [val], WL_nil, by simp⟩
    · rintro ⟨j1, X, qd⟩ ⟨hj, hX, hAX, hqd, hqdl⟩
      simp only at hj hX hAX hqd hqdl
      have hql : (List.replicate j1 0 ++ qd).length = M := by simp; omega
      rcases Nat.eq_zero_or_pos j1 with hj0 | hj0
      · subst hj0
        simp only [Nat.pow_zero, Nat.mul_one] at hX hAX
        have h0f : ((0 : Int) ≤ ((0 : Nat) : Int) - 1) = False := eq_false (by omega)
        simp only [go_sem, ↓reduceIte, Nat.reduceEqDiff, Nat.reduceAdd, Nat.reduceLT, Nat.reduceLeDiff, Int.reduceToNat, Nat.reducePow, Nat.reduceMul, reduceCtorEq, h1, h2, h3, h4, h5, h8, dig_length, hql, h0f]
        refine ⟨hqd, by omega, dig_WL _ _, by omega, by omega, ?_⟩
        have hXL : X < 4294967296 ^ L := Nat.lt_trans hX (Nat.lt_of_lt_of_le hV1 (Nat.pow_le_pow_right (by omega) (by omega)))
        rw [val_dig, Nat.mod_eq_of_lt hXL]
        have hs0 : 0 < 2 ^ s := Nat.pow_pos (by omega)
        have hA2 := (Nat.div_mod_unique hV0 (a := A) (c := X) (d := val qd)).2 ⟨hAX.symm, hX⟩
        have e1 : val x / val y = val qd := by rw [← hA2.1, ← hA, ← hV, Nat.mul_div_mul_right _ _ hs0]
        have e2 : val x % val y = X / 2 ^ s := by
          rw [← hA2.2, ← hA, ← hV, Nat.mul_mod_mul_right, Nat.mul_div_cancel _ hs0]
        rw [e1, e2] at hK
        exact hK
      · obtain ⟨j, rfl⟩ : ∃ j, j1 = j + 1 := ⟨j1 - 1, by omega⟩
        have hj1 : (((j + 1 : Nat) : Int) - 1) = (j : Int) := by omega
        simp only [hj1]
        generalize hPP : X / 4294967296 ^ j = P'
        have hPV : P' < V * 4294967296 := by
          rw [← hPP, Nat.div_lt_iff_lt_mul (pow_pos _), Nat.mul_assoc, Nat.mul_comm 4294967296, ← Nat.pow_succ]; exact hX
        have hPL : P' < 4294967296 ^ (n + 1) := by
          have := (Nat.mul_lt_mul_right (show 0 < 4294967296 by omega)).2 hV1
          rw [Nat.pow_succ]; exact Nat.lt_trans hPV this
        have st := step_of hone hV1 hV2 hPV
        rw [← htd, ← hnd] at st
        have hread : ∀ k, k ≤ n → (dig L X).getD (j + k) 0 = P' / 4294967296 ^ k % 4294967296 := by
          intro k hk
          rw [dig_get _ _ _ (by omega), Nat.pow_add, ← Nat.div_div_eq_div_mul, hPP]
        have hr0 := hread n (Nat.le_refl _)
        have hr1 := hread (n - 1) (by omega)
        have hr2 := hread (n - 2) (by omega)
        obtain ⟨a, ha⟩ : ∃ a, a = P' / 4294967296 ^ n % 4294967296 := ⟨_, rfl⟩
        obtain ⟨b, hb⟩ : ∃ b, b = P' / 4294967296 ^ (n - 1) % 4294967296 := ⟨_, rfl⟩
        obtain ⟨u2, hu⟩ : ∃ u2, u2 = P' / 4294967296 ^ (n - 2) % 4294967296 := ⟨_, rfl⟩
        rw [← ha] at hr0 st
        rw [← hb] at hr1 st
        rw [← hu] at hr2 st
        have haB : a < 4294967296 := by rw [ha]; exact Nat.mod_lt _ (by omega)
        have hbB : b < 4294967296 := by rw [hb]; exact Nat.mod_lt _ (by omega)
        have huB : u2 < 4294967296 := by rw [hu]; exact Nat.mod_lt _ (by omega)
        have htop0 : 0 < top := by have := st.half; omega
        have hsub : j + n + 1 - j = n + 1 := by omega
        have hsub1 : ((n : Int) - 1).toNat = n - 1 := by omega
        have hsub2 : ((n : Int) - 2).toNat = n - 2 := by omega
        have ea1 : a % 18446744073709551616 = a := by omega
        have ea2 : a * 4294967296 % 18446744073709551616 = a * 4294967296 := by omega
        have eb1 : b % 18446744073709551616 = b := by omega
        have eu1 : u2 % 18446744073709551616 = u2 := by omega
        have eor := or32 a b hbB
        simp only [go_sem, ↓reduceIte, Nat.reduceEqDiff, Nat.reduceAdd, Nat.reduceLT, Nat.reduceLeDiff, Int.reduceToNat, Nat.reducePow, Nat.reduceMul, reduceCtorEq, h1, h2, h3, h4, h5, h8, dig_length, hql, hsub, hsub1, hsub2, hr0, hr1, hr2, ea1, ea2, eb1, eor]
        repeat (first | (refine And.intro (by omega) ?_) | (refine And.intro (by assumption) ?_) | (refine And.intro rfl ?_) | (refine And.intro ⟨rfl, by omega⟩ ?_) | (refine And.intro ⟨rfl, by omega, by omega⟩ ?_) | (intro _))
        obtain ⟨q1, q2⟩ := st.first
        generalize hhead : a * 4294967296 + b = head at *
        have hqB := st.quot
        rw [Nat.mod_eq_of_lt (show head / top < 18446744073709551616 by omega)]
        refine wpA_loop (fun p : Nat × Nat => ⟨mkV [(8, .one (.lit (.int .i64 s))), (9, wsA (dig n V)), (10, .one (.own 55 1 1 0 L)), (11, .one (.own 61 1 1 0 M)), (12, .one (.lit (.int .u64 top))), (13, .one (.lit (.int .u64 next))), (14, .one (.lit (.int .i64 j))), (15, .one (.own 55 1 1 j (n + 1))), (17, .one (.lit (.int .u64 p.1))), (18, .one (.lit (.int .u64 p.2)))],
            mkH [(55, ⟨1, some ⟨(dig L X).map wc, 1, true⟩⟩), (61, ⟨1, some ⟨(List.replicate (j + 1) 0 ++ qd).map wc, 1, true⟩⟩)]⟩)
          (fun p => p.1 * top + p.2 = head ∧ P' / V ≤ p.1 ∧ p.1 ≤ 4294967297 ∧ p.2 < 8589934592 ∧ (4294967296 < p.1 → p.2 < 4294967296)) (fun p => p.1) (head / top, head % top) ?_ ?_ ?_
        · exact weak_lit (by simp [okS, okV, okC, okL, okH, okB, okE, mkV_cons, mkV_nil, mkH_cons, mkH_nil, wsA, ws]) ⟨okB_wc rfl, okB_wc rfl, trivial⟩
        · have m1 := Nat.mod_lt head htop0
          exact ⟨Nat.div_add_mod' head top, q2, q1, by simp only; omega, fun _ => by simp only; omega⟩
        · rintro ⟨g, r⟩ ⟨hg, hqg, hgB, hrB, hgr⟩
          simp only at hg hqg hgB hrB hgr
          rcases Nat.lt_or_ge r 4294967296 with hr | hr
          · have hr' : ((r : Int) < 4294967296) = True := eq_true (by omega)
            rcases Nat.lt_or_ge g 4294967296 with hgl | hgl
            · have hg' : ((4294967296 : Int) ≤ (g : Int)) = False := eq_false (by omega)
              have hm : g * next < 18446744073709551616 := mul_lt64' hgl hnB
              have em : g * next % 18446744073709551616 = g * next := by rw [Nat.mod_eq_of_lt hm]
              have er := shl_mod hr
              have eo := or32 r u2 huB
              by_cases hcmp : r * 4294967296 + u2 < g * next
              · simp only [go_sem, ↓reduceIte, Nat.reduceEqDiff, Nat.reduceAdd, Nat.reduceLT, Nat.reduceLeDiff, Int.reduceToNat, Nat.reducePow, Nat.reduceMul, reduceCtorEq, h1, h2, h3, h4, h5, h6, h7, h8, dig_length, hql, hsub, hsub1, hsub2, hr0, hr1, hr2, eu1, hr', hg', em, er, eo, hcmp]
                repeat (first | (refine And.intro (by omega) ?_) | (refine And.intro (by assumption) ?_) | (refine And.intro rfl ?_) | (refine And.intro ⟨rfl, by omega⟩ ?_) | (refine And.intro ⟨rfl, by omega, by omega⟩ ?_) | (intro _))
                have hdown : 4294967296 ≤ g ∨ r * 4294967296 + u2 < g * next := .inr hcmp
                have hdn := st.down hg hdown
                have hg0 : 1 ≤ g := Nat.lt_of_le_of_lt (Nat.zero_le _) hdn
                have hqg1 : P' / V ≤ g - 1 := Nat.le_sub_one_of_lt hdn
                have hg1 : sub64 g 1 = g - 1 := sub64_le hg0 (by omega)
                refine ⟨(g - 1, r + top), weak_lit (by simp [okS, okV, okC, okL, okH, okB, okE, mkV_cons, mkV_nil, mkH_cons, mkH_nil, wsA, ws, hg1]; omega) ⟨okB_wc rfl, okB_wc rfl, trivial⟩, ⟨?_, hqg1, by simp only; omega, by simp only; omega, fun _ => by simp only at *; omega⟩, by simp only; omega⟩
                simp only
                obtain ⟨g', rfl⟩ : ∃ g', g = g' + 1 := ⟨g - 1, by omega⟩
                rw [Nat.add_sub_cancel, ← hg, Nat.add_mul]; omega
              · simp only [go_sem, ↓reduceIte, Nat.reduceEqDiff, Nat.reduceAdd, Nat.reduceLT, Nat.reduceLeDiff, Int.reduceToNat, Nat.reducePow, Nat.reduceMul, reduceCtorEq, h1, h2, h3, h4, h5, h6, h7, h8, dig_length, hql, hsub, hsub1, hsub2, hr0, hr1, hr2, eu1, hr', hg', em, er, eo, hcmp]
                repeat (first | (refine And.intro (by omega) ?_) | (refine And.intro (by assumption) ?_) | (refine And.intro rfl ?_) | (refine And.intro ⟨rfl, by omega⟩ ?_) | (refine And.intro ⟨rfl, by omega, by omega⟩ ?_) | (intro _))
                have hstop : 4294967296 ≤ r ∨ (g < 4294967296 ∧ g * next ≤ r * 4294967296 + u2) := .inr ⟨hgl, by omega⟩
                have hgB2 : g ≤ 4294967296 := by omega
                have hle := st.stop hg hgB2 hstop
                obtain ⟨l1, l2⟩ := st.left hqg hle
                have hgV : g * V < 4294967296 ^ (n + 1) := by
                  have a1 := Nat.mul_le_mul_right V hgB2
                  have a2 := (Nat.mul_lt_mul_left (show 0 < 4294967296 by omega)).2 hV1
                  rw [Nat.pow_succ, Nat.mul_comm (4294967296 ^ n)]; exact Nat.lt_of_le_of_lt a1 a2
                have hsplit := dig_split (L := L) (j := j) (n := n) (X := X) (by omega) (by rw [hPP]; exact hPL)
                rw [hPP] at hsplit
                have hvp : val (dig (n + 1) P') = P' := by rw [val_dig, Nat.mod_eq_of_lt hPL]
                have hrl : P' % V < 4294967296 ^ (n + 1) := Nat.lt_of_le_of_lt (Nat.mod_le _ _) hPL
                have hjoin := dig_join (L := L) (j := j) (n := n) (X := X) (by omega) hrl
                have hdiv := div_step (j := j) (q := P' / V) hV0 hAX (by rw [hPP])
                rw [hPP] at hdiv
                simp only [remove_G, onWs_e]
                refine ⟨dig_WL _ _, dig j X, dig (n + 1) P', List.replicate (L - (j + (n + 1))) 0, g, (dig_length _ _).symm, (dig_length _ _).symm, rfl, by simp only [mkH_cons, ↓reduceIte, Nat.reduceEqDiff]; rw [hsplit], dig_WL _ _, hgB2, by rw [dig_length, dig_length]; omega, by rw [hvv, dig_length]; exact hgV, by rw [dig_length]; omega, ?_⟩
                rw [hvp, hvv, dig_length]
                by_cases hb : P' < g * V
                · have hgq := l1 hb
                  simp only [go_sem, ↓reduceIte, Nat.reduceEqDiff, Nat.reduceAdd, Nat.reduceLT, Nat.reduceLeDiff, Int.reduceToNat, Nat.reducePow, Nat.reduceMul, reduceCtorEq, h1, h2, h3, h4, h5, h7, h8, hb, hql]
                  simp only [back_G, onWs_e]
                  refine ⟨dig_WL _ _, dig j X, dig (n + 1) (P' + 4294967296 ^ (n + 1) - g * V), List.replicate (L - (j + (n + 1))) 0, (dig_length _ _).symm, (dig_length _ _).symm, by simp only [mkH_cons, ↓reduceIte, Nat.reduceEqDiff], dig_WL _ _, by rw [dig_length, dig_length]; omega, by rw [dig_length]; omega, ?_⟩
                  rw [dig_length, hvv, left_1 hgq hb hgV, hjoin]
                  have hg1 : sub64 g 1 = P' / V := by rw [hgq]; exact sub64_succ hqB
                  simp only [go_sem, ↓reduceIte, Nat.reduceEqDiff, Nat.reduceAdd, Nat.reduceLT, Nat.reduceLeDiff, Int.reduceToNat, Nat.reducePow, Nat.reduceMul, reduceCtorEq, h1, h2, h3, h4, h5, h7, h8, hql, hg1]
                  rw [Nat.mod_eq_of_lt hqB]
                  have hset := rep_set_low (n := j + 1) qd (P' / V) (by omega)
                  rw [Nat.add_sub_cancel] at hset
                  rw [hset]
                  repeat (first | (refine And.intro (by omega) ?_) | (refine And.intro (by assumption) ?_) | (refine And.intro rfl ?_) | (refine And.intro ⟨rfl, by omega⟩ ?_) | (refine And.intro ⟨rfl, by omega, by omega⟩ ?_) | (intro _))
                  exact ⟨(j, X % 4294967296 ^ j + 4294967296 ^ j * (P' % V), P' / V :: qd), weak_lit (by simp [okS, okV, okC, okL, okH, okB, okE, mkV_cons, mkV_nil, mkH_cons, mkH_nil, wsA, ws]) ⟨okB_wc rfl, okB_wc rfl, trivial⟩, ⟨by simp only; omega, hdiv.2, hdiv.1, WL_cons.2 ⟨hqB, hqd⟩, by simp only [List.length_cons]; omega⟩, by simp only; omega⟩
                · have hgq := l2 hb
                  rw [left_0 hgq, hjoin]
                  simp only [go_sem, ↓reduceIte, Nat.reduceEqDiff, Nat.reduceAdd, Nat.reduceLT, Nat.reduceLeDiff, Int.reduceToNat, Nat.reducePow, Nat.reduceMul, reduceCtorEq, h1, h2, h3, h4, h5, h7, h8, hb, hql]
                  rw [hgq, Nat.mod_eq_of_lt hqB]
                  have hset := rep_set_low (n := j + 1) qd (P' / V) (by omega)
                  rw [Nat.add_sub_cancel] at hset
                  rw [hset]
                  repeat (first | (refine And.intro (by omega) ?_) | (refine And.intro (by assumption) ?_) | (refine And.intro rfl ?_) | (refine And.intro ⟨rfl, by omega⟩ ?_) | (refine And.intro ⟨rfl, by omega, by omega⟩ ?_) | (intro _))
                  exact ⟨(j, X % 4294967296 ^ j + 4294967296 ^ j * (P' % V), P' / V :: qd), weak_lit (by simp [okS, okV, okC, okL, okH, okB, okE, mkV_cons, mkV_nil, mkH_cons, mkH_nil, wsA, ws]) ⟨okB_wc rfl, okB_wc rfl, trivial⟩, ⟨by simp only; omega, hdiv.2, hdiv.1, WL_cons.2 ⟨hqB, hqd⟩, by simp only [List.length_cons]; omega⟩, by simp only; omega⟩
            · have hg' : ((4294967296 : Int) ≤ (g : Int)) = True := eq_true (by omega)
              simp only [go_sem, ↓reduceIte, Nat.reduceEqDiff, Nat.reduceAdd, Nat.reduceLT, Nat.reduceLeDiff, Int.reduceToNat, Nat.reducePow, Nat.reduceMul, reduceCtorEq, h1, h2, h3, h4, h5, h6, h7, h8, dig_length, hql, hsub, hsub1, hsub2, hr0, hr1, hr2, eu1, hr', hg']
              repeat (first | (refine And.intro (by omega) ?_) | (refine And.intro (by assumption) ?_) | (refine And.intro rfl ?_) | (refine And.intro ⟨rfl, by omega⟩ ?_) | (refine And.intro ⟨rfl, by omega, by omega⟩ ?_) | (intro _))
              have hdown : 4294967296 ≤ g ∨ r * 4294967296 + u2 < g * next := .inl hgl
              have hdn := st.down hg hdown
              have hg0 : 1 ≤ g := Nat.lt_of_le_of_lt (Nat.zero_le _) hdn
              have hqg1 : P' / V ≤ g - 1 := Nat.le_sub_one_of_lt hdn
              have hg1 : sub64 g 1 = g - 1 := sub64_le hg0 (by omega)
              refine ⟨(g - 1, r + top), weak_lit (by simp [okS, okV, okC, okL, okH, okB, okE, mkV_cons, mkV_nil, mkH_cons, mkH_nil, wsA, ws, hg1]; omega) ⟨okB_wc rfl, okB_wc rfl, trivial⟩, ⟨?_, hqg1, by simp only; omega, by simp only; omega, fun _ => by simp only at *; omega⟩, by simp only; omega⟩
              simp only
              obtain ⟨g', rfl⟩ : ∃ g', g = g' + 1 := ⟨g - 1, by omega⟩
              rw [Nat.add_sub_cancel, ← hg, Nat.add_mul]; omega
          · have hr' : ((r : Int) < 4294967296) = False := eq_false (by omega)
            simp only [go_sem, ↓reduceIte, Nat.reduceEqDiff, Nat.reduceAdd, Nat.reduceLT, Nat.reduceLeDiff, Int.reduceToNat, Nat.reducePow, Nat.reduceMul, reduceCtorEq, h1, h2, h3, h4, h5, h6, h7, h8, dig_length, hql, hsub, hsub1, hsub2, hr0, hr1, hr2, eu1, hr']
            repeat (first | (refine And.intro (by omega) ?_) | (refine And.intro (by assumption) ?_) | (refine And.intro rfl ?_) | (refine And.intro ⟨rfl, by omega⟩ ?_) | (refine And.intro ⟨rfl, by omega, by omega⟩ ?_) | (intro _))
            have hstop : 4294967296 ≤ r ∨ (g < 4294967296 ∧ g * next ≤ r * 4294967296 + u2) := .inl hr
            have hgB2 : g ≤ 4294967296 := by omega
            have hle := st.stop hg hgB2 hstop
            obtain ⟨l1, l2⟩ := st.left hqg hle
            have hgV : g * V < 4294967296 ^ (n + 1) := by
              have a1 := Nat.mul_le_mul_right V hgB2
              have a2 := (Nat.mul_lt_mul_left (show 0 < 4294967296 by omega)).2 hV1
              rw [Nat.pow_succ, Nat.mul_comm (4294967296 ^ n)]; exact Nat.lt_of_le_of_lt a1 a2
            have hsplit := dig_split (L := L) (j := j) (n := n) (X := X) (by omega) (by rw [hPP]; exact hPL)
            rw [hPP] at hsplit
            have hvp : val (dig (n + 1) P') = P' := by rw [val_dig, Nat.mod_eq_of_lt hPL]
            have hrl : P' % V < 4294967296 ^ (n + 1) := Nat.lt_of_le_of_lt (Nat.mod_le _ _) hPL
            have hjoin := dig_join (L := L) (j := j) (n := n) (X := X) (by omega) hrl
            have hdiv := div_step (j := j) (q := P' / V) hV0 hAX (by rw [hPP])
            rw [hPP] at hdiv
            simp only [remove_G, onWs_e]
            refine ⟨dig_WL _ _, dig j X, dig (n + 1) P', List.replicate (L - (j + (n + 1))) 0, g, (dig_length _ _).symm, (dig_length _ _).symm, rfl, by simp only [mkH_cons, ↓reduceIte, Nat.reduceEqDiff]; rw [hsplit], dig_WL _ _, hgB2, by rw [dig_length, dig_length]; omega, by rw [hvv, dig_length]; exact hgV, by rw [dig_length]; omega, ?_⟩
            rw [hvp, hvv, dig_length]
            by_cases hb : P' < g * V
            · have hgq := l1 hb
              simp only [go_sem, ↓reduceIte, Nat.reduceEqDiff, Nat.reduceAdd, Nat.reduceLT, Nat.reduceLeDiff, Int.reduceToNat, Nat.reducePow, Nat.reduceMul, reduceCtorEq, h1, h2, h3, h4, h5, h7, h8, hb, hql]
              simp only [back_G, onWs_e]
              refine ⟨dig_WL _ _, dig j X, dig (n + 1) (P' + 4294967296 ^ (n + 1) - g * V), List.replicate (L - (j + (n + 1))) 0, (dig_length _ _).symm, (dig_length _ _).symm, by simp only [mkH_cons, ↓reduceIte, Nat.reduceEqDiff], dig_WL _ _, by rw [dig_length, dig_length]; omega, by rw [dig_length]; omega, ?_⟩
              rw [dig_length, hvv, left_1 hgq hb hgV, hjoin]
              have hg1 : sub64 g 1 = P' / V := by rw [hgq]; exact sub64_succ hqB
              simp only [go_sem, ↓reduceIte, Nat.reduceEqDiff, Nat.reduceAdd, Nat.reduceLT, Nat.reduceLeDiff, Int.reduceToNat, Nat.reducePow, Nat.reduceMul, reduceCtorEq, h1, h2, h3, h4, h5, h7, h8, hql, hg1]
              rw [Nat.mod_eq_of_lt hqB]
              have hset := rep_set_low (n := j + 1) qd (P' / V) (by omega)
              rw [Nat.add_sub_cancel] at hset
              rw [hset]
              repeat (first | (refine And.intro (by omega) ?_) | (refine And.intro (by assumption) ?_) | (refine And.intro rfl ?_) | (refine And.intro ⟨rfl, by omega⟩ ?_) | (refine And.intro ⟨rfl, by omega, by omega⟩ ?_) | (intro _))
              exact ⟨(j, X % 4294967296 ^ j + 4294967296 ^ j * (P' % V), P' / V :: qd), weak_lit (by simp [okS, okV, okC, okL, okH, okB, okE, mkV_cons, mkV_nil, mkH_cons, mkH_nil, wsA, ws]) ⟨okB_wc rfl, okB_wc rfl, trivial⟩, ⟨by simp only; omega, hdiv.2, hdiv.1, WL_cons.2 ⟨hqB, hqd⟩, by simp only [List.length_cons]; omega⟩, by simp only; omega⟩
            · have hgq := l2 hb
              rw [left_0 hgq, hjoin]
              simp only [go_sem, ↓reduceIte, Nat.reduceEqDiff, Nat.reduceAdd, Nat.reduceLT, Nat.reduceLeDiff, Int.reduceToNat, Nat.reducePow, Nat.reduceMul, reduceCtorEq, h1, h2, h3, h4, h5, h7, h8, hb, hql]
              rw [hgq, Nat.mod_eq_of_lt hqB]
              have hset := rep_set_low (n := j + 1) qd (P' / V) (by omega)
              rw [Nat.add_sub_cancel] at hset
              rw [hset]
              repeat (first | (refine And.intro (by omega) ?_) | (refine And.intro (by assumption) ?_) | (refine And.intro rfl ?_) | (refine And.intro ⟨rfl, by omega⟩ ?_) | (refine And.intro ⟨rfl, by omega, by omega⟩ ?_) | (intro _))
              exact ⟨(j, X % 4294967296 ^ j + 4294967296 ^ j * (P' % V), P' / V :: qd), weak_lit (by simp [okS, okV, okC, okL, okH, okB, okE, mkV_cons, mkV_nil, mkH_cons, mkH_nil, wsA, ws]) ⟨okB_wc rfl, okB_wc rfl, trivial⟩, ⟨by simp only; omega, hdiv.2, hdiv.1, WL_cons.2 ⟨hqB, hqd⟩, by simp only [List.length_cons]; omega⟩, by simp only; omega⟩

end Go.Abs
end

/-
  The program's integers: every function keeps its contract.
-/
section
set_option linter.unusedVariables false
set_option linter.unusedSimpArgs false
set_option maxRecDepth 100000
namespace Go.Abs
open Go.Num

variable {P : Program} {Γ : Nat → Spec}

/-- linkwork/integer.Valid (19) [.tmp 2] -/
def ac_integer_Valid : AC := (.seq (.ops false [⟨some 1, none, .box 2 (.t 0)⟩, ⟨some 2, none, .mv (.c (.one (.lit (.bool false))))⟩])
 (.fg [1] (.seq (.seq (.ops false [⟨some 3, none, .fa 1 (.t 1)⟩, ⟨some 4, none, .ld none 1 false (.t 3)⟩, ⟨some 5, none, .len (.t 4)⟩, ⟨some 6, none, .bin .eql (.t 5) (.c (.one (.lit (.int .i64 0))))⟩])
 (.fg [1, 6] (.cond (.t 6) (.seq (.ops false [⟨some 7, none, .fa 0 (.t 1)⟩, ⟨some 8, none, .ld none 1 false (.t 7)⟩, ⟨some 9, none, .un .not (.t 8)⟩, ⟨some 2, none, .mv (.t 9)⟩])
 .ret) .skip)))
 (.fg [1] (.seq (.ops false [⟨some 10, none, .fa 1 (.t 1)⟩, ⟨some 11, none, .ld none 1 false (.t 10)⟩, ⟨some 12, none, .fa 1 (.t 1)⟩, ⟨some 13, none, .ld none 1 false (.t 12)⟩, ⟨some 14, none, .len (.t 13)⟩, ⟨some 15, none, .bin .sub (.t 14) (.c (.one (.lit (.int .i64 1))))⟩, ⟨some 16, none, .idx 1 (.t 11) (.t 15)⟩, ⟨some 17, none, .ld none 1 false (.t 16)⟩, ⟨some 18, none, .bin .neq (.t 17) (.c (.one (.lit (.int .u32 0))))⟩, ⟨some 2, none, .mv (.t 18)⟩])
 .ret)))))

/-- linkwork/integer.mag (8) [.tmp 2] -/
def ac_integer_mag (f_integer_Valid : Nat) : AC := (.seq (.ops false [⟨some 1, none, .box 2 (.t 0)⟩, ⟨some 2, none, .mv (.c (.one .emp))⟩])
 (.fg [1] (.seq (.seq (.ops false [⟨some 3, none, .ld none 2 true (.t 1)⟩, ⟨some 4, none, .call f_integer_Valid [(.t 3)]⟩, ⟨some 5, none, .un .not (.t 4)⟩])
 (.fg [1, 5] (.cond (.t 5) (.seq (.ops false [⟨some 2, none, .mv (.c (.one .emp))⟩])
 .ret) .skip)))
 (.fg [1] (.seq (.ops false [⟨some 6, none, .fa 1 (.t 1)⟩, ⟨some 7, none, .ld none 1 false (.t 6)⟩, ⟨some 2, none, .mv (.t 7)⟩])
 .ret)))))

/-- linkwork/integer.neg (9) [.tmp 2] -/
def ac_integer_neg (f_integer_Valid : Nat) : AC := (.seq (.ops false [⟨some 1, none, .box 2 (.t 0)⟩, ⟨some 2, none, .mv (.c (.one (.lit (.bool false))))⟩])
 (.fg [1] (.seq (.ops false [⟨some 3, none, .ld none 2 true (.t 1)⟩, ⟨some 4, none, .call f_integer_Valid [(.t 3)]⟩, ⟨some 5, none, .mv (.t 4)⟩, ⟨some 6, some (5, true), .fa 0 (.t 1)⟩, ⟨some 7, some (5, true), .ld none 1 false (.t 6)⟩, ⟨some 8, none, .pick (.t 5) (.t 7) (.c (.one (.lit (.bool false))))⟩, ⟨some 2, none, .mv (.t 8)⟩])
 .ret)))

/-- linkwork/integer.whole (15) [.cell 4 2 true] -/
def ac_integer_whole (f_integer_trim : Nat) : AC := (.seq (.ops false [⟨some 4, none, .alloc [(.lit (.bool false)), .emp]⟩])
 (.fg [0, 1, 4] (.seq (.ops false [⟨some 5, none, .mv (.t 1)⟩, ⟨some 6, none, .call f_integer_trim [(.t 5)]⟩, ⟨some 1, none, .mv (.t 6)⟩])
 (.fg [0, 1, 4] (.seq (.ops false [⟨some 7, none, .mv (.t 0)⟩, ⟨some 8, none, .mv (.t 7)⟩, ⟨some 9, some (8, true), .mv (.t 1)⟩, ⟨some 10, some (8, true), .len (.t 9)⟩, ⟨some 11, some (8, true), .bin .gtr (.t 10) (.c (.one (.lit (.int .i64 0))))⟩, ⟨some 12, none, .pick (.t 8) (.t 11) (.c (.one (.lit (.bool false))))⟩, ⟨some 13, none, .mv (.t 1)⟩, ⟨some 14, none, .build [.x 1 (.t 12), .x 1 (.t 13)]⟩, ⟨none, none, .st none 2 (.t 4) (.t 14)⟩])
 .ret)))))

/-- linkwork/integer.Of (19) [.cell 2 2 true] -/
def ac_integer_Of (f_integer_whole : Nat) : AC := (.seq (.ops false [⟨some 2, none, .alloc [(.lit (.bool false)), .emp]⟩])
 (.fg [0, 2] (.seq (.ops false [⟨some 4, none, .mv (.t 0)⟩, ⟨some 5, none, .conv .u64 (.t 4)⟩, ⟨some 3, none, .mv (.t 5)⟩])
 (.fg [0, 2, 3] (.seq (.seq (.ops false [⟨some 6, none, .mv (.t 0)⟩, ⟨some 7, none, .bin .lss (.t 6) (.c (.one (.lit (.int .i64 0))))⟩])
 (.fg [0, 2, 3, 7] (.cond (.t 7) (.ops false [⟨some 8, none, .mv (.t 3)⟩, ⟨some 9, none, .un .neg (.t 8)⟩, ⟨some 3, none, .mv (.t 9)⟩]) .skip)))
 (.fg [0, 2, 3] (.seq (.ops false [⟨some 10, none, .mv (.t 0)⟩, ⟨some 11, none, .bin .lss (.t 10) (.c (.one (.lit (.int .i64 0))))⟩, ⟨some 12, none, .mv (.t 3)⟩, ⟨some 13, none, .conv .u32 (.t 12)⟩, ⟨some 14, none, .mv (.t 3)⟩, ⟨some 15, none, .bin .shr (.t 14) (.c (.one (.lit (.int .u64 32))))⟩, ⟨some 16, none, .conv .u32 (.t 15)⟩, ⟨some 17, none, .row 1 [[.x 1 (.t 13)], [.x 1 (.t 16)]]⟩, ⟨some 18, none, .call f_integer_whole [(.t 11), (.t 17)]⟩, ⟨none, none, .st none 2 (.t 2) (.t 18)⟩])
 .ret)))))))

/-- linkwork/integer.Sign (11) [.tmp 2] -/
def ac_integer_Sign (f_integer_mag : Nat) : AC := (.seq (.ops false [⟨some 1, none, .box 2 (.t 0)⟩, ⟨some 2, none, .mv (.c (.one (.lit (.int .i64 0))))⟩])
 (.fg [1] (.seq (.block 0 (.seq (.ops false [⟨some 4, none, .ld none 2 true (.t 1)⟩, ⟨some 5, none, .call f_integer_mag [(.t 4)]⟩, ⟨some 6, none, .len (.t 5)⟩, ⟨some 7, none, .bin .eql (.t 6) (.c (.one (.lit (.int .i64 0))))⟩, ⟨some 3, none, .mv (.t 7)⟩])
 (.fg [1, 3] (.cond (.t 3) (.seq (.ops false [⟨some 2, none, .mv (.c (.one (.lit (.int .i64 0))))⟩])
 .ret) (.seq (.ops false [⟨some 9, none, .fa 0 (.t 1)⟩, ⟨some 10, none, .ld none 1 false (.t 9)⟩, ⟨some 8, none, .mv (.t 10)⟩])
 (.fg [8] (.cond (.t 8) (.seq (.ops false [⟨some 2, none, .mv (.c (.one (.lit (.int .i64 (-1)))))⟩])
 .ret) .skip)))))))
 (.fg [] (.seq (.ops false [⟨some 2, none, .mv (.c (.one (.lit (.int .i64 1))))⟩])
 .ret)))))

/-- linkwork/integer.Cmp (28) [.tmp 4] -/
def ac_integer_Cmp (f_integer_Sign f_integer_mag f_integer_compare f_integer_neg : Nat) : AC := (.seq (.ops false [⟨some 2, none, .box 2 (.t 0)⟩, ⟨some 3, none, .box 2 (.t 1)⟩, ⟨some 4, none, .mv (.c (.one (.lit (.int .i64 0))))⟩])
 (.fg [2, 3] (.seq (.seq (.ops true [⟨some 8, none, .ld none 2 true (.t 2)⟩, ⟨some 9, none, .call f_integer_Sign [(.t 8)]⟩, ⟨some 10, none, .ld none 2 true (.t 3)⟩, ⟨some 11, none, .call f_integer_Sign [(.t 10)]⟩, ⟨some 5, none, .mv (.t 9)⟩, ⟨some 6, none, .mv (.t 11)⟩])
 (.fg [2, 3, 5, 6] (.seq (.ops false [⟨some 12, none, .mv (.t 5)⟩, ⟨some 13, none, .mv (.t 6)⟩, ⟨some 14, none, .bin .neq (.t 12) (.t 13)⟩])
 (.fg [2, 3, 5, 6, 14] (.cond (.t 14) (.seq (.seq (.ops false [⟨some 15, none, .mv (.t 5)⟩, ⟨some 16, none, .mv (.t 6)⟩, ⟨some 17, none, .bin .lss (.t 15) (.t 16)⟩])
 (.fg [17] (.cond (.t 17) (.seq (.ops false [⟨some 4, none, .mv (.c (.one (.lit (.int .i64 (-1)))))⟩])
 .ret) .skip)))
 (.fg [] (.seq (.ops false [⟨some 4, none, .mv (.c (.one (.lit (.int .i64 1))))⟩])
 .ret))) .skip)))))
 (.fg [2, 3] (.seq (.ops true [⟨some 18, none, .ld none 2 true (.t 2)⟩, ⟨some 19, none, .call f_integer_mag [(.t 18)]⟩, ⟨some 20, none, .ld none 2 true (.t 3)⟩, ⟨some 21, none, .call f_integer_mag [(.t 20)]⟩, ⟨some 22, none, .call f_integer_compare [(.t 19), (.t 21)]⟩, ⟨some 7, none, .mv (.t 22)⟩])
 (.fg [2, 7] (.seq (.seq (.ops false [⟨some 23, none, .ld none 2 true (.t 2)⟩, ⟨some 24, none, .call f_integer_neg [(.t 23)]⟩])
 (.fg [7, 24] (.cond (.t 24) (.seq (.ops false [⟨some 25, none, .mv (.t 7)⟩, ⟨some 26, none, .un .neg (.t 25)⟩, ⟨some 4, none, .mv (.t 26)⟩])
 .ret) .skip)))
 (.fg [7] (.seq (.ops false [⟨some 27, none, .mv (.t 7)⟩, ⟨some 4, none, .mv (.t 27)⟩])
 .ret)))))))))

/-- linkwork/integer.Neg (9) [.cell 2 2 true] -/
def ac_integer_Neg (f_integer_neg f_integer_mag f_integer_whole : Nat) : AC := (.seq (.ops false [⟨some 1, none, .box 2 (.t 0)⟩, ⟨some 2, none, .alloc [(.lit (.bool false)), .emp]⟩])
 (.fg [1, 2] (.seq (.ops true [⟨some 3, none, .ld none 2 true (.t 1)⟩, ⟨some 4, none, .call f_integer_neg [(.t 3)]⟩, ⟨some 5, none, .un .not (.t 4)⟩, ⟨some 6, none, .ld none 2 true (.t 1)⟩, ⟨some 7, none, .call f_integer_mag [(.t 6)]⟩, ⟨some 8, none, .call f_integer_whole [(.t 5), (.t 7)]⟩, ⟨none, none, .st none 2 (.t 2) (.t 8)⟩])
 .ret)))

/-- linkwork/integer.Add (40) [.cell 4 2 true] -/
def ac_integer_Add (f_integer_mag f_integer_neg f_integer_plus f_integer_whole f_integer_compare f_integer_less : Nat) : AC := (.seq (.ops false [⟨some 2, none, .box 2 (.t 0)⟩, ⟨some 3, none, .box 2 (.t 1)⟩, ⟨some 4, none, .alloc [(.lit (.bool false)), .emp]⟩])
 (.fg [2, 3, 4] (.seq (.ops true [⟨some 7, none, .ld none 2 true (.t 2)⟩, ⟨some 8, none, .call f_integer_mag [(.t 7)]⟩, ⟨some 9, none, .ld none 2 true (.t 3)⟩, ⟨some 10, none, .call f_integer_mag [(.t 9)]⟩, ⟨some 5, none, .mv (.t 8)⟩, ⟨some 6, none, .mv (.t 10)⟩])
 (.fg [2, 3, 4, 5, 6] (.seq (.block 0 (.seq (.ops true [⟨some 12, none, .ld none 2 true (.t 2)⟩, ⟨some 13, none, .call f_integer_neg [(.t 12)]⟩, ⟨some 14, none, .ld none 2 true (.t 3)⟩, ⟨some 15, none, .call f_integer_neg [(.t 14)]⟩, ⟨some 16, none, .binb .eql (.t 13) (.t 15)⟩, ⟨some 11, none, .mv (.t 16)⟩])
 (.fg [2, 3, 4, 5, 6, 11] (.cond (.t 11) (.seq (.ops false [⟨some 17, none, .ld none 2 true (.t 2)⟩, ⟨some 18, none, .call f_integer_neg [(.t 17)]⟩, ⟨some 19, none, .mv (.t 5)⟩, ⟨some 20, none, .mv (.t 6)⟩, ⟨some 21, none, .call f_integer_plus [(.t 19), (.t 20)]⟩, ⟨some 22, none, .call f_integer_whole [(.t 18), (.t 21)]⟩, ⟨none, none, .st none 2 (.t 4) (.t 22)⟩])
 .ret) (.seq (.ops false [⟨some 24, none, .mv (.t 5)⟩, ⟨some 25, none, .mv (.t 6)⟩, ⟨some 26, none, .call f_integer_compare [(.t 24), (.t 25)]⟩, ⟨some 27, none, .bin .geq (.t 26) (.c (.one (.lit (.int .i64 0))))⟩, ⟨some 23, none, .mv (.t 27)⟩])
 (.fg [2, 3, 4, 5, 6, 23] (.cond (.t 23) (.seq (.ops false [⟨some 28, none, .ld none 2 true (.t 2)⟩, ⟨some 29, none, .call f_integer_neg [(.t 28)]⟩, ⟨some 30, none, .mv (.t 5)⟩, ⟨some 31, none, .mv (.t 6)⟩, ⟨some 32, none, .call f_integer_less [(.t 30), (.t 31)]⟩, ⟨some 33, none, .call f_integer_whole [(.t 29), (.t 32)]⟩, ⟨none, none, .st none 2 (.t 4) (.t 33)⟩])
 .ret) .skip)))))))
 (.fg [3, 4, 5, 6] (.seq (.ops false [⟨some 34, none, .ld none 2 true (.t 3)⟩, ⟨some 35, none, .call f_integer_neg [(.t 34)]⟩, ⟨some 36, none, .mv (.t 6)⟩, ⟨some 37, none, .mv (.t 5)⟩, ⟨some 38, none, .call f_integer_less [(.t 36), (.t 37)]⟩, ⟨some 39, none, .call f_integer_whole [(.t 35), (.t 38)]⟩, ⟨none, none, .st none 2 (.t 4) (.t 39)⟩])
 .ret)))))))

/-- linkwork/integer.Mul (16) [.cell 4 2 true] -/
def ac_integer_Mul (f_integer_neg f_integer_mag f_integer_times f_integer_whole : Nat) : AC := (.seq (.ops false [⟨some 2, none, .box 2 (.t 0)⟩, ⟨some 3, none, .box 2 (.t 1)⟩, ⟨some 4, none, .alloc [(.lit (.bool false)), .emp]⟩])
 (.fg [2, 3, 4] (.seq (.ops true [⟨some 5, none, .ld none 2 true (.t 2)⟩, ⟨some 6, none, .call f_integer_neg [(.t 5)]⟩, ⟨some 7, none, .ld none 2 true (.t 3)⟩, ⟨some 8, none, .call f_integer_neg [(.t 7)]⟩, ⟨some 9, none, .binb .neq (.t 6) (.t 8)⟩, ⟨some 10, none, .ld none 2 true (.t 2)⟩, ⟨some 11, none, .call f_integer_mag [(.t 10)]⟩, ⟨some 12, none, .ld none 2 true (.t 3)⟩, ⟨some 13, none, .call f_integer_mag [(.t 12)]⟩, ⟨some 14, none, .call f_integer_times [(.t 11), (.t 13)]⟩, ⟨some 15, none, .call f_integer_whole [(.t 9), (.t 14)]⟩, ⟨none, none, .st none 2 (.t 4) (.t 15)⟩])
 .ret)))

/-- linkwork/integer.Gcd (26) [.cell 4 2 true] -/
def ac_integer_Gcd (f_integer_mag f_integer_divide f_integer_whole : Nat) : AC := (.seq (.ops false [⟨some 2, none, .box 2 (.t 0)⟩, ⟨some 3, none, .box 2 (.t 1)⟩, ⟨some 4, none, .alloc [(.lit (.bool false)), .emp]⟩])
 (.fg [2, 3, 4] (.seq (.ops true [⟨some 9, none, .ld none 2 true (.t 2)⟩, ⟨some 10, none, .call f_integer_mag [(.t 9)]⟩, ⟨some 11, none, .ld none 2 true (.t 3)⟩, ⟨some 12, none, .call f_integer_mag [(.t 11)]⟩, ⟨some 5, none, .mv (.t 10)⟩, ⟨some 6, none, .mv (.t 12)⟩])
 (.fg [4, 5, 6] (.seq (.block 0 (.loop (.seq (.seq (.ops false [⟨some 13, none, .mv (.t 6)⟩, ⟨some 14, none, .len (.t 13)⟩, ⟨some 15, none, .bin .gtr (.t 14) (.c (.one (.lit (.int .i64 0))))⟩])
 (.fg [4, 5, 6, 15] (.cond (.t 15) .skip (.exit 0))))
 (.fg [4, 5, 6] (.block 1 (.seq (.ops false [⟨some 17, none, .mv (.t 5)⟩, ⟨some 18, none, .mv (.t 6)⟩, ⟨some 19, none, .call f_integer_divide [(.t 17), (.t 18)]⟩, ⟨some 16, none, .mv (.t 19)⟩, ⟨some 20, none, .ext 0 (.t 16)⟩, ⟨some 21, none, .ext 1 (.t 16)⟩, ⟨some 7, none, .mv (.t 20)⟩, ⟨some 8, none, .mv (.t 21)⟩])
 (.fg [4, 6, 8] (.ops false [⟨some 22, none, .mv (.t 6)⟩, ⟨some 23, none, .mv (.t 8)⟩, ⟨some 5, none, .mv (.t 22)⟩, ⟨some 6, none, .mv (.t 23)⟩]))))))))
 (.fg [4, 5] (.seq (.ops false [⟨some 24, none, .mv (.t 5)⟩, ⟨some 25, none, .call f_integer_whole [(.c (.one (.lit (.bool false)))), (.t 24)]⟩, ⟨none, none, .st none 2 (.t 4) (.t 25)⟩])
 .ret)))))))

/-- linkwork/integer.Div (47) [.cell 4 2 true, .cell 5 2 true, .tmp 6] -/
def ac_integer_Div (f_integer_mag f_integer_divide f_integer_neg f_integer_plus f_integer_less f_integer_whole tE : Nat) : AC := (.seq (.ops false [⟨some 2, none, .box 2 (.t 0)⟩, ⟨some 3, none, .box 2 (.t 1)⟩, ⟨some 4, none, .alloc [(.lit (.bool false)), .emp]⟩, ⟨some 5, none, .alloc [(.lit (.bool false)), .emp]⟩, ⟨some 6, none, .mv (.c (.one (.lit .nilIface)))⟩])
 (.fg [2, 3, 4, 5] (.seq (.ops false [⟨some 10, none, .ld none 2 true (.t 3)⟩, ⟨some 11, none, .call f_integer_mag [(.t 10)]⟩, ⟨some 7, none, .mv (.t 11)⟩])
 (.fg [2, 3, 4, 5, 7] (.seq (.seq (.ops false [⟨some 12, none, .mv (.t 7)⟩, ⟨some 13, none, .len (.t 12)⟩, ⟨some 14, none, .bin .eql (.t 13) (.c (.one (.lit (.int .i64 0))))⟩])
 (.fg [2, 3, 4, 5, 7, 14] (.cond (.t 14) (.seq (.ops false [⟨some 15, none, .build [.z [(.lit (.bool false)), .emp]]⟩, ⟨some 16, none, .build [.z [(.lit (.bool false)), .emp]]⟩, ⟨some 17, none, .iface tE (.c (.one (.lit (.int .i64 8))))⟩, ⟨none, none, .st none 2 (.t 4) (.t 15)⟩, ⟨none, none, .st none 2 (.t 5) (.t 16)⟩, ⟨some 6, none, .mv (.t 17)⟩])
 .ret) .skip)))
 (.fg [2, 3, 4, 5, 7] (.seq (.ops false [⟨some 19, none, .ld none 2 true (.t 2)⟩, ⟨some 20, none, .call f_integer_mag [(.t 19)]⟩, ⟨some 21, none, .mv (.t 7)⟩, ⟨some 22, none, .call f_integer_divide [(.t 20), (.t 21)]⟩, ⟨some 18, none, .mv (.t 22)⟩, ⟨some 23, none, .ext 0 (.t 18)⟩, ⟨some 24, none, .ext 1 (.t 18)⟩, ⟨some 8, none, .mv (.t 23)⟩, ⟨some 9, none, .mv (.t 24)⟩])
 (.fg [2, 3, 4, 5, 7, 8, 9] (.seq (.seq (.ops false [⟨some 25, none, .ld none 2 true (.t 2)⟩, ⟨some 26, none, .call f_integer_neg [(.t 25)]⟩, ⟨some 27, none, .mv (.t 26)⟩, ⟨some 28, some (27, true), .mv (.t 9)⟩, ⟨some 29, some (27, true), .len (.t 28)⟩, ⟨some 30, some (27, true), .bin .gtr (.t 29) (.c (.one (.lit (.int .i64 0))))⟩, ⟨some 31, none, .pick (.t 27) (.t 30) (.c (.one (.lit (.bool false))))⟩])
 (.fg [2, 3, 4, 5, 7, 8, 9, 31] (.cond (.t 31) (.ops false [⟨some 32, none, .mv (.t 8)⟩, ⟨some 33, none, .row 1 [[.x 1 (.c (.one (.lit (.int .u32 1))))]]⟩, ⟨some 34, none, .call f_integer_plus [(.t 32), (.t 33)]⟩, ⟨some 35, none, .mv (.t 7)⟩, ⟨some 36, none, .mv (.t 9)⟩, ⟨some 37, none, .call f_integer_less [(.t 35), (.t 36)]⟩, ⟨some 8, none, .mv (.t 34)⟩, ⟨some 9, none, .mv (.t 37)⟩]) .skip)))
 (.fg [2, 3, 4, 5, 8, 9] (.seq (.ops true [⟨some 38, none, .ld none 2 true (.t 2)⟩, ⟨some 39, none, .call f_integer_neg [(.t 38)]⟩, ⟨some 40, none, .ld none 2 true (.t 3)⟩, ⟨some 41, none, .call f_integer_neg [(.t 40)]⟩, ⟨some 42, none, .binb .neq (.t 39) (.t 41)⟩, ⟨some 43, none, .mv (.t 8)⟩, ⟨some 44, none, .call f_integer_whole [(.t 42), (.t 43)]⟩, ⟨some 45, none, .mv (.t 9)⟩, ⟨some 46, none, .call f_integer_whole [(.c (.one (.lit (.bool false)))), (.t 45)]⟩, ⟨none, none, .st none 2 (.t 4) (.t 44)⟩, ⟨none, none, .st none 2 (.t 5) (.t 46)⟩, ⟨some 6, none, .mv (.c (.one (.lit .nilIface)))⟩])
 .ret)))))))))))


theorem zvalid_sound (hΓ : Holds P Γ) {f : Nat} (hc : check P f = some (19, ac_integer_Valid.strip, [.tmp 2])) : Sound P f (.dat true zvalid_G) := by
  refine sound_dat hc zvalid_good hΓ (fun args K hcl hfi hG => ?_)
  match args, hG with
  | [a], hG =>
    obtain ⟨w, rfl, hw, hK⟩ := hG
    refine ⟨by simp, ?_⟩
    simp only [go_sem, ↓reduceIte, Nat.reduceEqDiff, Nat.reduceAdd, Nat.reduceLT, Nat.reduceLeDiff, Int.reduceToNat, Nat.reducePow, Nat.reduceMul, reduceCtorEq, ac_integer_Valid, zb_eq, zm_eq]
    unfold vldW at hK
    intro hlen
    refine ⟨fun h => ?_, fun h _ => ?_⟩
    · rw [if_pos (List.length_eq_zero_iff.1 h)] at hK; exact hK
    · have hn : w.2 ≠ [] := fun e => h (by rw [e]; rfl)
      rw [if_neg hn] at hK
      refine ⟨⟨by omega, by omega⟩, by omega, by omega, ?_⟩
      have e1 : ((w.2.length : Int) - 1).toNat = w.2.length - 1 := by omega
      rw [e1]
      have e2 : (!decide (w.2.getD (w.2.length - 1) 0 = 0)) = decide (NZ w.2) := by
        rw [← decide_not, decide_eq_decide]
        unfold NZ
        rw [List.getLast?_eq_getElem?, List.getElem?_eq_getElem (by omega), List.getD_eq_getElem?_getD, List.getElem?_eq_getElem (by omega)]
        simp
      rw [e2]; exact hK

theorem zmag_sound (hΓ : Holds P Γ) {f fv : Nat} (hv : Γ fv = .dat true zvalid_G) (hc : check P f = some (8, (ac_integer_mag fv).strip, [.tmp 2])) : Sound P f (.dat false zmag_G) := by
  refine sound_dat hc zmag_good hΓ (fun args K hcl hfi hG => ?_)
  match args, hG with
  | [a], hG =>
    obtain ⟨w, rfl, hw, hK⟩ := hG
    refine ⟨by simp, ?_⟩
    simp only [go_sem, ↓reduceIte, Nat.reduceEqDiff, Nat.reduceAdd, Nat.reduceLT, Nat.reduceLeDiff, Int.reduceToNat, Nat.reducePow, Nat.reduceMul, reduceCtorEq, ac_integer_mag, hv, hw]
    rw [← mag_eq hw] at hK
    refine ⟨fun h => ?_, fun h => ?_⟩
    · rw [if_pos h] at hK; exact hK
    · rw [if_neg (by rw [h]; simp)] at hK; exact hK

theorem znegp_sound (hΓ : Holds P Γ) {f fv : Nat} (hv : Γ fv = .dat true zvalid_G) (hc : check P f = some (9, (ac_integer_neg fv).strip, [.tmp 2])) : Sound P f (.dat true znegp_G) := by
  refine sound_dat hc znegp_good hΓ (fun args K hcl hfi hG => ?_)
  match args, hG with
  | [a], hG =>
    obtain ⟨w, rfl, hw, hK⟩ := hG
    refine ⟨by simp, ?_⟩
    simp only [go_sem, ↓reduceIte, Nat.reduceEqDiff, Nat.reduceAdd, Nat.reduceLT, Nat.reduceLeDiff, Int.reduceToNat, Nat.reducePow, Nat.reduceMul, reduceCtorEq, ac_integer_neg, hv, hw]
    rw [← neg_eq hw] at hK
    refine ⟨fun h => ?_, fun h => ?_⟩
    · rw [h, Bool.true_and] at hK; exact hK
    · rw [h, Bool.false_and] at hK; exact hK

theorem whole_sound (hΓ : Holds P Γ) {f ft : Nat} (ht : Γ ft = .dat false trim_G) (hc : check P f = some (15, (ac_integer_whole ft).strip, [.cell 4 2 true])) : Sound P f (.dat false whole_G) := by
  refine sound_dat hc whole_good hΓ (fun args K hcl hfi hG => ?_)
  match args, hG with
  | [a, m], hG =>
    obtain ⟨b, rfl, hG⟩ := asBool_inv hG
    obtain ⟨l, rfl, hl, hlen, hK⟩ := hG
    refine ⟨by simp, ?_⟩
    simp only [go_sem, ↓reduceIte, Nat.reduceEqDiff, Nat.reduceAdd, Nat.reduceLT, Nat.reduceLeDiff, Int.reduceToNat, Nat.reducePow, Nat.reduceMul, reduceCtorEq, ac_integer_whole, ht]
    rw [← can_sg] at hK
    refine ⟨hl, hlen, fun h _ => ?_, fun h => ?_⟩
    · rw [h, Bool.true_and] at hK; exact hK
    · rw [h, Bool.false_and] at hK; exact hK

theorem zof_sound (hΓ : Holds P Γ) {f fw : Nat} (hw : Γ fw = .dat false whole_G) (hc : check P f = some (19, (ac_integer_Of fw).strip, [.cell 2 2 true])) : Sound P f (.dat false zof_G) := by
  refine sound_dat hc zof_good hΓ (fun args K hcl hfi hG => ?_)
  match args, hG with
  | [a], hG =>
    obtain ⟨k, n, rfl, rfl, hn1, hn2, hK⟩ := asInt_inv hG
    refine ⟨by simp, ?_⟩
    simp only [go_sem, ↓reduceIte, Nat.reduceEqDiff, Nat.reduceAdd, Nat.reduceLT, Nat.reduceLeDiff, Int.reduceToNat, Nat.reducePow, Nat.reduceMul, reduceCtorEq, ac_integer_Of, hw]
    have e0 : (18446744073709551616 : Int) = ((18446744073709551616 : Nat) : Int) := rfl
    have key : ∀ (x : Nat) (b : Bool), x < 18446744073709551616 → sg b x = n →
        onWs (fun l => l.length ≤ 68719476736 ∧ K (AV.agg [zb (zcan (sg b (val l))), zm (zcan (sg b (val l)))]))
          (AV.one (C.slice [[C.lit (Value.int IntKind.u32 ((x : Int) % 4294967296))], [C.lit (Value.int IntKind.u32 ((x : Int) / 2 ^ 32 % 4294967296))]])) := by
      intro x b hx hs
      have e1 : ((x : Int) % 4294967296) = ((x % 4294967296 : Nat) : Int) := by omega
      have e2 : ((x : Int) / 2 ^ 32 % 4294967296) = ((x / 4294967296 : Nat) : Int) := by omega
      rw [e1, e2, onWs_2]
      refine ⟨?_, by simp, ?_⟩
      · rw [WL_cons, WL_cons]; exact ⟨by omega, by omega, WL_nil⟩
      · have : val [x % 4294967296, x / 4294967296] = x := by
          simp only [val_cons, val_nil]; omega
        rw [this, hs]; exact hK
    refine ⟨fun h => ⟨⟨by omega, by omega, by decide⟩, ?_⟩, fun h => ⟨⟨by omega, by omega, by decide⟩, ?_⟩⟩
    · have e : (-(n % 18446744073709551616) % 18446744073709551616 : Int) = ((-n).toNat : Int) := by omega
      rw [e]
      refine key _ _ (by omega) ?_
      rw [decide_eq_true h]; unfold sg; rw [if_pos rfl]; omega
    · have e : (n % 18446744073709551616 : Int) = (n.toNat : Int) := by omega
      rw [e]
      refine key _ _ (by omega) ?_
      rw [decide_eq_false h]; unfold sg; rw [if_neg (by simp)]; omega

theorem zsign_sound (hΓ : Holds P Γ) {f fm : Nat} (hm : Γ fm = .dat false zmag_G) (hc : check P f = some (11, (ac_integer_Sign fm).strip, [.tmp 2])) : Sound P f (.dat true zsign_G) := by
  refine sound_dat hc zsign_good hΓ (fun args K hcl hfi hG => ?_)
  match args, hG with
  | [a], hG =>
    obtain ⟨w, rfl, hw, hK⟩ := hG
    refine ⟨by simp, ?_⟩
    simp only [go_sem, ↓reduceIte, Nat.reduceEqDiff, Nat.reduceAdd, Nat.reduceLT, Nat.reduceLeDiff, Int.reduceToNat, Nat.reducePow, Nat.reduceMul, reduceCtorEq, ac_integer_Sign, hm, hw, zb_eq, zm_eq]
    intro _
    show ((digs (zv w).natAbs).length = 0 → _) ∧ (¬(digs (zv w).natAbs).length = 0 → _)
    have h0 : (digs (zv w).natAbs).length = 0 ↔ zv w = 0 := zs_eq_zero
    rw [h0]
    refine ⟨fun h => ?_, fun h => ⟨fun hb => ?_, fun hb => ?_⟩⟩
    · rw [h] at hK; exact hK
    · have : zv w < 0 := by
        have := neg_eq hw; rw [hb, Bool.and_true] at this
        have hv : vldW w = true := by
          cases hv : vldW w with
          | true => rfl
          | false => exact absurd (zv_nvld hv) h
        rw [hv] at this; simpa using this.symm
      rw [Int.sign_eq_neg_one_of_neg this] at hK; exact hK
    · have : ¬ zv w < 0 := by
        have := neg_eq hw; rw [hb, Bool.and_false] at this
        simpa using this.symm
      rw [Int.sign_eq_one_of_pos (by omega)] at hK; exact hK

theorem zcmp_sound (hΓ : Holds P Γ) {f fs fm fc fn : Nat} (hs : Γ fs = .dat true zsign_G) (hm : Γ fm = .dat false zmag_G) (hc' : Γ fc = .dat false compare_G) (hn : Γ fn = .dat true znegp_G)
    (hc : check P f = some (28, (ac_integer_Cmp fs fm fc fn).strip, [.tmp 4])) : Sound P f (.dat true zcmp_G) := by
  refine sound_dat hc zcmp_good hΓ (fun args K hcl hfi hG => ?_)
  match args, hG with
  | [a, b], hG =>
    obtain ⟨v, rfl, hv, w, rfl, hw, hK⟩ := hG
    refine ⟨by simp, ?_⟩
    simp only [go_sem, ↓reduceIte, Nat.reduceEqDiff, Nat.reduceAdd, Nat.reduceLT, Nat.reduceLeDiff, Int.reduceToNat, Nat.reducePow, Nat.reduceMul, reduceCtorEq, ac_integer_Cmp, hs, hm, hc', hn, hv, hw]
    simp only [val_digs]
    have hs : ∀ n : Int, Int.sign n = if n < 0 then -1 else if n = 0 then 0 else 1 := by
      intro n
      split
      · exact Int.sign_eq_neg_one_of_neg ‹_›
      · split
        · rename_i h; rw [h]; rfl
        · exact Int.sign_eq_one_of_pos (by omega)
    rw [hs, hs]
    generalize zv v = x at hK ⊢
    generalize zv w = y at hK ⊢
    refine ⟨fun h => ⟨digs_WL _, digs_WL _, digs_NZ _, digs_NZ _, fun hx => ⟨?_, ?_⟩, fun hx => ?_⟩, fun h => ⟨fun h' => ?_, fun h' => ?_⟩⟩
    · unfold ordN; split <;> (try split) <;> omega
    · have e : -ordN x.natAbs y.natAbs = ordI x y := by
        unfold ordN ordI
        rw [if_pos hx] at h
        have hy : y < 0 := by
          split at h
          · assumption
          · split at h <;> omega
        split <;> (try split) <;> (try split) <;> (try split) <;> omega
      rw [e]; exact hK
    · have e : ordN x.natAbs y.natAbs = ordI x y := by
        unfold ordN ordI
        rw [if_neg hx] at h
        have hy : ¬ y < 0 := by
          intro hy
          rw [if_pos hy] at h
          split at h <;> omega
        split <;> (try split) <;> (try split) <;> (try split) <;> omega
      rw [e]; exact hK
    · have e : ordI x y = -1 := ordI_lt (by
        split at h' <;> split at h' <;> (try split at h') <;> (try split at h') <;> omega)
      rw [e] at hK; exact hK
    · have e : ordI x y = 1 := ordI_gt (by
        split at h' <;> split at h' <;> (try split at h') <;> (try split at h') <;> (try split at h) <;> (try split at h) <;> (try split at h) <;> (try split at h) <;> omega)
      rw [e] at hK; exact hK

theorem zneg_sound (hΓ : Holds P Γ) {f fn fm fw : Nat} (hn : Γ fn = .dat true znegp_G) (hm : Γ fm = .dat false zmag_G) (hw' : Γ fw = .dat false whole_G) (hc : check P f = some (9, (ac_integer_Neg fn fm fw).strip, [.cell 2 2 true])) : Sound P f (.dat false zneg_G) := by
  refine sound_dat hc zneg_good hΓ (fun args K hcl hfi hG => ?_)
  match args, hG with
  | [a], hG =>
    obtain ⟨w, rfl, hw, hz, hK⟩ := hG
    refine ⟨by simp, ?_⟩
    simp only [go_sem, ↓reduceIte, Nat.reduceEqDiff, Nat.reduceAdd, Nat.reduceLT, Nat.reduceLeDiff, Int.reduceToNat, Nat.reducePow, Nat.reduceMul, reduceCtorEq, ac_integer_Neg, hn, hm, hw', hw]
    rw [val_digs]
    refine ⟨digs_WL _, hz, ?_⟩
    have e : sg (!decide (zv w < 0)) (zv w).natAbs = -zv w := by
      unfold sg
      by_cases h : zv w < 0 <;> simp [h] <;> omega
    rw [e]; exact hK

theorem zmul_sound (hΓ : Holds P Γ) {f fn fm ft fw : Nat} (hn : Γ fn = .dat true znegp_G) (hm : Γ fm = .dat false zmag_G) (ht : Γ ft = .dat false times_G) (hw' : Γ fw = .dat false whole_G) (hc : check P f = some (16, (ac_integer_Mul fn fm ft fw).strip, [.cell 4 2 true])) : Sound P f (.dat false zmul_G) := by
  refine sound_dat hc zmul_good hΓ (fun args K hcl hfi hG => ?_)
  match args, hG with
  | [a, b], hG =>
    obtain ⟨v, rfl, hv, w, rfl, hw, hz, hz', hK⟩ := hG
    refine ⟨by simp, ?_⟩
    simp only [go_sem, ↓reduceIte, Nat.reduceEqDiff, Nat.reduceAdd, Nat.reduceLT, Nat.reduceLeDiff, Int.reduceToNat, Nat.reducePow, Nat.reduceMul, reduceCtorEq, ac_integer_Mul, hn, hm, ht, hw', hw, hv]
    simp only [val_digs]
    have e : sg (!(decide (zv v < 0) == decide (zv w < 0))) ((zv v).natAbs * (zv w).natAbs) = zv v * zv w := sg_mul _ _
    rw [e]
    refine ⟨digs_WL _, digs_WL _, hz, hz', digs_WL _, ?_, hK⟩
    have := zs_mul (zv v) (zv w)
    unfold zs at *
    rw [← Int.natAbs_mul]; omega

theorem zadd_sound (hΓ : Holds P Γ) {f fn fm fp fw fc fl : Nat} (hn : Γ fn = .dat true znegp_G) (hm : Γ fm = .dat false zmag_G) (hp : Γ fp = .dat false plus_G) (hw' : Γ fw = .dat false whole_G) (hc' : Γ fc = .dat false compare_G) (hl : Γ fl = .dat false less_G) (hc : check P f = some (40, (ac_integer_Add fm fn fp fw fc fl).strip, [.cell 4 2 true])) : Sound P f (.dat false zadd_G) := by
  refine sound_dat hc zadd_good hΓ (fun args K hcl hfi hG => ?_)
  match args, hG with
  | [a, b], hG =>
    obtain ⟨v, rfl, hv, w, rfl, hw, hz, hz', hK⟩ := hG
    refine ⟨by simp, ?_⟩
    simp only [go_sem, ↓reduceIte, Nat.reduceEqDiff, Nat.reduceAdd, Nat.reduceLT, Nat.reduceLeDiff, Int.reduceToNat, Nat.reducePow, Nat.reduceMul, reduceCtorEq, ac_integer_Add, hn, hm, hp, hw', hc', hl, hw, hv]
    simp only [val_digs]
    have hsz := zs_add (zv v) (zv w)
    refine ⟨fun h => ⟨digs_WL _, digs_WL _, hz, hz', digs_WL _, ?_, ?_⟩, fun h => ⟨digs_WL _, digs_WL _, digs_NZ _, digs_NZ _, fun ho => ⟨digs_WL _, digs_WL _, by unfold zs at hz; omega, ?_, digs_WL _, ?_, ?_⟩, fun ho => ⟨digs_WL _, digs_WL _, by unfold zs at hz'; omega, ?_, digs_WL _, ?_, ?_⟩⟩⟩
    · have e := sg_add_same (of_decide_beq h)
      rw [show (zv v).natAbs + (zv w).natAbs = (zv v + zv w).natAbs by have := of_decide_beq h; omega]
      unfold zs at *; omega
    · rw [sg_add_same (of_decide_beq h)]; exact hK
    · exact (ordN_ge.1 ho)
    · have := digs_len_mono (Nat.sub_le (zv v).natAbs (zv w).natAbs); unfold zs at *; omega
    · have h1 := ordN_ge.1 ho
      rw [sg_sub (of_decide_bne h) h1]; exact hK
    · have := mt ordN_ge.2 ho; omega
    · have := digs_len_mono (Nat.sub_le (zv w).natAbs (zv v).natAbs); unfold zs at *; omega
    · have h1 := mt ordN_ge.2 ho
      rw [sg_sub (fun e => of_decide_bne h e.symm) (by omega), Int.add_comm]; exact hK

theorem zdiv_sound (hΓ : Holds P Γ) {f fn fm fp fw fd fl tE : Nat} (hn : Γ fn = .dat true znegp_G) (hm : Γ fm = .dat false zmag_G) (hp : Γ fp = .dat false plus_G) (hw' : Γ fw = .dat false whole_G) (hd : Γ fd = .dat false divide_G) (hl : Γ fl = .dat false less_G) (hc : check P f = some (47, (ac_integer_Div fm fd fn fp fl fw tE).strip, [.cell 4 2 true, .cell 5 2 true, .tmp 6])) : Sound P f (.dat false zdiv_G) := by
  refine sound_dat hc zdiv_good hΓ (fun args K hcl hfi hG => ?_)
  match args, hG with
  | [a, b], hG =>
    obtain ⟨v, rfl, hv, w, rfl, hw, hz, hz', h0, hK⟩ := hG
    refine ⟨by simp, ?_⟩
    simp only [go_sem, ↓reduceIte, Nat.reduceEqDiff, Nat.reduceAdd, Nat.reduceLT, Nat.reduceLeDiff, Int.reduceToNat, Nat.reducePow, Nat.reduceMul, reduceCtorEq, ac_integer_Div, hn, hm, hp, hw', hd, hl, hw, hv]
    simp only [val_digs]
    have hne : ¬ (digs (zv w).natAbs).length = 0 := fun e => h0 (zs_eq_zero.1 e)
    intro _
    refine ⟨fun e => absurd e hne, fun _ => ⟨digs_WL _, digs_WL _, digs_NZ _, digs_NZ _, fun e => hne (by rw [e]; rfl), hz, hz', ?_⟩⟩
    have hq : (digs ((zv v).natAbs / (zv w).natAbs)).length ≤ 17179869184 := Nat.le_trans (digs_len_mono (Nat.div_le_self _ _)) hz
    have hr : (digs ((zv v).natAbs % (zv w).natAbs)).length ≤ 17179869184 := Nat.le_trans (digs_len_mono (Nat.mod_le _ _)) hz
    have hz'' : (digs (zv w).natAbs).length ≤ 17179869184 := hz'
    have hlt := Nat.mod_lt (zv v).natAbs (show 0 < (zv w).natAbs by omega)
    have hfin : (0 ≤ zv v ∨ (zv v).natAbs % (zv w).natAbs = 0) → K (AV.tup
        [AV.agg [zb (zcan (sg (!(decide (zv v < 0) == decide (zv w < 0))) ((zv v).natAbs / (zv w).natAbs))), zm (zcan (sg (!(decide (zv v < 0) == decide (zv w < 0))) ((zv v).natAbs / (zv w).natAbs)))],
          AV.agg [zb (zcan (sg false ((zv v).natAbs % (zv w).natAbs))), zm (zcan (sg false ((zv v).natAbs % (zv w).natAbs)))], AV.one (C.lit Value.nilIface)]) := by
      intro h
      obtain ⟨e1, e2⟩ := ediv_pos h0 h
      have e1' : sg (!(decide (zv v < 0) == decide (zv w < 0))) ((zv v).natAbs / (zv w).natAbs) = zv v / zv w := e1
      have e2' : sg false ((zv v).natAbs % (zv w).natAbs) = zv v % zv w := e2
      rw [e1', e2']; exact hK
    refine ⟨fun hneg _ => ⟨fun hp => ⟨digs_WL _, (onWs_1 _ 1).mpr ⟨WL_cons.2 ⟨by decide, WL_nil⟩, hq, by decide, digs_WL _, digs_WL _, by omega, by omega, digs_WL _, ?_, digs_WL _, ?_, ?_⟩⟩, fun hp => ⟨digs_WL _, by omega, digs_WL _, by omega, hfin (.inr ?_)⟩⟩, fun hneg => ⟨digs_WL _, by omega, digs_WL _, by omega, hfin (.inl (by omega))⟩⟩
    · have hv1 : val [1] = 1 := rfl
      rw [hv1]
      have h1 : zs 1 ≤ 2 := zs_of (by decide)
      have := zs_add (((zv v).natAbs / (zv w).natAbs : Nat) : Int) 1
      have e : (((zv v).natAbs / (zv w).natAbs : Nat) : Int) + 1 = (((zv v).natAbs / (zv w).natAbs + 1 : Nat) : Int) := by omega
      rw [e] at this
      have h3 : zs (((zv v).natAbs / (zv w).natAbs : Nat) : Int) = (digs ((zv v).natAbs / (zv w).natAbs)).length := rfl
      have h4 : zs (((zv v).natAbs / (zv w).natAbs + 1 : Nat) : Int) = (digs ((zv v).natAbs / (zv w).natAbs + 1)).length := rfl
      rw [h3, h4] at this
      omega
    · have := digs_len_mono (Nat.sub_le (zv w).natAbs ((zv v).natAbs % (zv w).natAbs)); omega
    · have hv1 : val [1] = 1 := rfl
      rw [hv1]
      have hne' : (zv v).natAbs % (zv w).natAbs ≠ 0 := by
        intro e; rw [e, digs_zero] at hp; simp at hp
      obtain ⟨e1, e2⟩ := ediv_neg h0 hneg hne'
      have e1' : sg (!(decide (zv v < 0) == decide (zv w < 0))) ((zv v).natAbs / (zv w).natAbs + 1) = zv v / zv w := e1
      have e2' : sg false ((zv w).natAbs - (zv v).natAbs % (zv w).natAbs) = zv v % zv w := e2
      rw [e1', e2']; exact hK
    · have : digs ((zv v).natAbs % (zv w).natAbs) = [] := List.eq_nil_of_length_eq_zero (by omega)
      exact digs_eq_nil.1 this

theorem zgcd_sound (hΓ : Holds P Γ) {f fm fd fw : Nat} (hm : Γ fm = .dat false zmag_G) (hw' : Γ fw = .dat false whole_G) (hd : Γ fd = .dat false divide_G) (hc : check P f = some (26, (ac_integer_Gcd fm fd fw).strip, [.cell 4 2 true])) : Sound P f (.dat false zgcd_G) := by
  refine sound_dat hc zgcd_good hΓ (fun args K hcl hfi hG => ?_)
  match args, hG with
  | [a, b], hG =>
    obtain ⟨v, rfl, hv, w, rfl, hw, hz, hz', hK⟩ := hG
    refine ⟨by simp, ?_⟩
    simp only [go_sem, ↓reduceIte, Nat.reduceEqDiff, Nat.reduceAdd, Nat.reduceLT, Nat.reduceLeDiff, Int.reduceToNat, Nat.reducePow, Nat.reduceMul, reduceCtorEq, ac_integer_Gcd, hm, hw', hd, hw, hv]
    refine wpA_loop (fun p : Nat × Nat => ⟨mkV [(4, .one (.ptr 4 1 0 0)), (5, .one (ws (digs p.1))), (6, .one (ws (digs p.2)))], mkH [(4, ⟨1, some ⟨[[.lit (.bool false), .emp]], 2, true⟩⟩)]⟩)
      (fun p => (digs p.1).length ≤ 17179869184 ∧ (digs p.2).length ≤ 17179869184 ∧ Nat.gcd p.1 p.2 = Int.gcd (zv v) (zv w)) (fun p => p.2) ((zv v).natAbs, (zv w).natAbs) ?_ ?_ ?_
    · exact weak_lit (by simp [okS, okV, okC, okL, okH, okB, okE, mkV_cons, mkV_nil, mkH_cons, mkH_nil, wsA, ws]) ⟨⟨⟨rfl, rfl⟩, .inr ⟨⟨rfl, trivial, trivial⟩, trivial⟩⟩, trivial⟩
    · exact ⟨hz, hz', rfl⟩
    · rintro ⟨a, b⟩ ⟨ha, hb, hg⟩
      simp only at ha hb hg
      simp only [go_sem, ↓reduceIte, Nat.reduceEqDiff, Nat.reduceAdd, Nat.reduceLT, Nat.reduceLeDiff, Int.reduceToNat, Nat.reducePow, Nat.reduceMul, reduceCtorEq, hm, hw', hd, ws]
      simp only [val_digs]
      refine fun _ => ⟨fun h => ⟨digs_WL _, digs_WL _, digs_NZ _, digs_NZ _, fun e => by rw [e] at h; simp at h, ha, hb, ?_⟩, fun h => ⟨digs_WL _, by omega, ?_⟩⟩
      · have hb0 : 0 < b := by
          rcases Nat.eq_zero_or_pos b with e | e
          · rw [e, digs_zero] at h; simp at h
          · exact e
        refine ⟨(b, a % b), weak_lit (by simp [okS, okV, okC, okL, okH, okB, okE, mkV_cons, mkV_nil, mkH_cons, mkH_nil, wsA, ws]) ⟨⟨⟨rfl, rfl⟩, .inr ⟨⟨rfl, trivial, trivial⟩, trivial⟩⟩, trivial⟩, ⟨hb, Nat.le_trans (digs_len_mono (Nat.mod_le _ _)) ha, ?_⟩, Nat.mod_lt _ hb0⟩
        rw [← hg]
        show Nat.gcd b (a % b) = _
        rw [Nat.gcd_comm b, ← Nat.gcd_rec, Nat.gcd_comm]
      · have : digs b = [] := List.eq_nil_of_length_eq_zero (by omega)
        rw [digs_eq_nil.1 this, Nat.gcd_zero_right] at hg
        rw [hg]; exact hK

end Go.Abs
end

/-
  The second integers' lists of words.
-/
section
set_option linter.unusedVariables false
set_option linter.unusedSimpArgs false
set_option maxRecDepth 100000
namespace Go.Abs
open Go.Num

variable {P : Program} {Γ : Nat → Spec}

/-- linkwork/linkworkref01.trim (25) [.tmp 2] -/
def ac_linkworkref01_trim : AC := (.seq (.ops false [⟨some 2, none, .mv (.c (.one .emp))⟩])
 (.fg [0] (.seq (.ops false [⟨some 4, none, .mv (.c (.one .emp))⟩, ⟨some 5, none, .mv (.t 0)⟩, ⟨some 6, none, .app0 1 (.t 4) (.t 5)⟩, ⟨some 3, none, .mv (.t 6)⟩])
 (.fg [3] (.seq (.block 0 (.loop (.seq (.seq (.ops false [⟨some 7, none, .mv (.t 3)⟩, ⟨some 8, none, .len (.t 7)⟩, ⟨some 9, none, .bin .gtr (.t 8) (.c (.one (.lit (.int .i64 0))))⟩, ⟨some 10, none, .mv (.t 9)⟩, ⟨some 11, some (10, true), .mv (.t 3)⟩, ⟨some 12, some (10, true), .mv (.t 3)⟩, ⟨some 13, some (10, true), .len (.t 12)⟩, ⟨some 14, some (10, true), .bin .sub (.t 13) (.c (.one (.lit (.int .i64 1))))⟩, ⟨some 15, some (10, true), .idx 1 (.t 11) (.t 14)⟩, ⟨some 16, some (10, true), .ld none 1 false (.t 15)⟩, ⟨some 17, some (10, true), .bin .eql (.t 16) (.c (.one (.lit (.int .u32 0))))⟩, ⟨some 18, none, .pick (.t 10) (.t 17) (.c (.one (.lit (.bool false))))⟩])
 (.fg [3, 18] (.cond (.t 18) .skip (.exit 0))))
 (.fg [3] (.block 1 (.ops false [⟨some 19, none, .mv (.t 3)⟩, ⟨some 20, none, .mv (.t 3)⟩, ⟨some 21, none, .len (.t 20)⟩, ⟨some 22, none, .bin .sub (.t 21) (.c (.one (.lit (.int .i64 1))))⟩, ⟨some 23, none, .sl 1 (.t 19) none (some (.t 22))⟩, ⟨some 3, none, .mv (.t 23)⟩]))))))
 (.fg [3] (.seq (.ops false [⟨some 24, none, .mv (.t 3)⟩, ⟨some 2, none, .mv (.t 24)⟩])
 .ret)))))))

/-- linkwork/linkworkref01.plus (37) [.tmp 4] -/
def ac_linkworkref01_plus (f_linkworkref01_at f_linkworkref01_trim : Nat) : AC := (.seq (.ops false [⟨some 4, none, .mv (.c (.one .emp))⟩])
 (.fg [0, 1] (.seq (.ops false [⟨some 5, none, .mv (.c (.one .emp))⟩])
 (.fg [0, 1, 5] (.seq (.ops false [⟨some 6, none, .mv (.c (.one (.lit (.int .u64 0))))⟩])
 (.fg [0, 1, 5, 6] (.seq (.seq (.ops false [⟨some 9, none, .mv (.t 0)⟩, ⟨some 10, none, .len (.t 9)⟩, ⟨some 11, none, .mv (.t 1)⟩, ⟨some 12, none, .len (.t 11)⟩, ⟨some 13, none, .max [(.t 10), (.t 12)]⟩, ⟨some 14, none, .bin .add (.t 13) (.c (.one (.lit (.int .i64 1))))⟩, ⟨some 15, none, .mv (.c (.one (.lit (.int .i64 0))))⟩])
 (.fg [0, 1, 5, 6, 14, 15] (.block 0 (.loop (.seq (.ops false [⟨some 16, none, .bin .lss (.t 15) (.t 14)⟩])
 (.fg [0, 1, 5, 6, 14, 15, 16] (.seq (.cond (.t 16) .skip (.exit 0))
 (.fg [0, 1, 5, 6, 14, 15] (.seq (.block 1 (.seq (.ops false [⟨some 17, none, .mv (.t 15)⟩, ⟨some 7, none, .mv (.t 17)⟩])
 (.fg [0, 1, 5, 6, 7, 14, 15] (.seq (.ops false [⟨some 18, none, .mv (.t 0)⟩, ⟨some 19, none, .mv (.t 7)⟩, ⟨some 20, none, .call f_linkworkref01_at [(.t 18), (.t 19)]⟩, ⟨some 21, none, .mv (.t 1)⟩, ⟨some 22, none, .mv (.t 7)⟩, ⟨some 23, none, .call f_linkworkref01_at [(.t 21), (.t 22)]⟩, ⟨some 24, none, .bin .add (.t 20) (.t 23)⟩, ⟨some 25, none, .mv (.t 6)⟩, ⟨some 26, none, .bin .add (.t 24) (.t 25)⟩, ⟨some 8, none, .mv (.t 26)⟩])
 (.fg [0, 1, 5, 8, 14, 15] (.ops false [⟨some 27, none, .mv (.t 5)⟩, ⟨some 28, none, .mv (.t 8)⟩, ⟨some 29, none, .conv .u32 (.t 28)⟩, ⟨some 30, none, .row 1 [[.x 1 (.t 29)]]⟩, ⟨some 31, none, .app 1 (.t 27) (.t 30)⟩, ⟨some 32, none, .mv (.t 8)⟩, ⟨some 33, none, .bin .shr (.t 32) (.c (.one (.lit (.int .u64 32))))⟩, ⟨some 5, none, .mv (.t 31)⟩, ⟨some 6, none, .mv (.t 33)⟩]))))))
 (.fg [0, 1, 5, 6, 14, 15] (.ops false [⟨some 34, none, .bin .add (.t 15) (.c (.one (.lit (.int .i64 1))))⟩, ⟨some 15, none, .mv (.t 34)⟩])))))))))))
 (.fg [5] (.seq (.ops false [⟨some 35, none, .mv (.t 5)⟩, ⟨some 36, none, .callf f_linkworkref01_trim [(.t 35)]⟩, ⟨some 4, none, .mv (.t 36)⟩])
 .ret)))))))))

/-- linkwork/linkworkref01.minus (35) [.tmp 4] -/
def ac_linkworkref01_minus (f_linkworkref01_at f_linkworkref01_trim : Nat) : AC := (.seq (.ops false [⟨some 4, none, .mv (.c (.one .emp))⟩])
 (.fg [0, 1] (.seq (.ops false [⟨some 5, none, .mv (.c (.one .emp))⟩])
 (.fg [0, 1, 5] (.seq (.ops false [⟨some 6, none, .mv (.c (.one (.lit (.int .u64 0))))⟩])
 (.fg [0, 1, 5, 6] (.seq (.seq (.ops false [⟨some 9, none, .mv (.t 0)⟩, ⟨some 10, none, .len (.t 9)⟩, ⟨some 11, none, .mv (.c (.one (.lit (.int .i64 0))))⟩])
 (.fg [0, 1, 5, 6, 10, 11] (.block 0 (.loop (.seq (.ops false [⟨some 12, none, .bin .lss (.t 11) (.t 10)⟩])
 (.fg [0, 1, 5, 6, 10, 11, 12] (.seq (.cond (.t 12) .skip (.exit 0))
 (.fg [0, 1, 5, 6, 10, 11] (.seq (.block 1 (.seq (.ops false [⟨some 13, none, .mv (.t 11)⟩, ⟨some 7, none, .mv (.t 13)⟩])
 (.fg [0, 1, 5, 6, 7, 10, 11] (.seq (.ops false [⟨some 14, none, .mv (.t 0)⟩, ⟨some 15, none, .mv (.t 7)⟩, ⟨some 16, none, .call f_linkworkref01_at [(.t 14), (.t 15)]⟩, ⟨some 17, none, .bin .add (.c (.one (.lit (.int .u64 4294967296)))) (.t 16)⟩, ⟨some 18, none, .mv (.t 1)⟩, ⟨some 19, none, .mv (.t 7)⟩, ⟨some 20, none, .call f_linkworkref01_at [(.t 18), (.t 19)]⟩, ⟨some 21, none, .bin .sub (.t 17) (.t 20)⟩, ⟨some 22, none, .mv (.t 6)⟩, ⟨some 23, none, .bin .sub (.t 21) (.t 22)⟩, ⟨some 8, none, .mv (.t 23)⟩])
 (.fg [0, 1, 5, 8, 10, 11] (.ops false [⟨some 24, none, .mv (.t 5)⟩, ⟨some 25, none, .mv (.t 8)⟩, ⟨some 26, none, .conv .u32 (.t 25)⟩, ⟨some 27, none, .row 1 [[.x 1 (.t 26)]]⟩, ⟨some 28, none, .app 1 (.t 24) (.t 27)⟩, ⟨some 29, none, .mv (.t 8)⟩, ⟨some 30, none, .bin .shr (.t 29) (.c (.one (.lit (.int .u64 32))))⟩, ⟨some 31, none, .bin .sub (.c (.one (.lit (.int .u64 1)))) (.t 30)⟩, ⟨some 5, none, .mv (.t 28)⟩, ⟨some 6, none, .mv (.t 31)⟩]))))))
 (.fg [0, 1, 5, 6, 10, 11] (.ops false [⟨some 32, none, .bin .add (.t 11) (.c (.one (.lit (.int .i64 1))))⟩, ⟨some 11, none, .mv (.t 32)⟩])))))))))))
 (.fg [5] (.seq (.ops false [⟨some 33, none, .mv (.t 5)⟩, ⟨some 34, none, .callf f_linkworkref01_trim [(.t 33)]⟩, ⟨some 4, none, .mv (.t 34)⟩])
 .ret)))))))))

/-- linkwork/linkworkref01.compare (30) [.tmp 4] -/
def ac_linkworkref01_compare (f_linkworkref01_at : Nat) : AC := (.seq (.ops false [⟨some 4, none, .mv (.c (.one (.lit (.int .i64 0))))⟩])
 (.fg [0, 1] (.seq (.seq (.ops false [⟨some 6, none, .mv (.t 0)⟩, ⟨some 7, none, .len (.t 6)⟩, ⟨some 8, none, .mv (.t 1)⟩, ⟨some 9, none, .len (.t 8)⟩, ⟨some 10, none, .max [(.t 7), (.t 9)]⟩, ⟨some 11, none, .bin .sub (.t 10) (.c (.one (.lit (.int .i64 1))))⟩, ⟨some 5, none, .mv (.t 11)⟩])
 (.fg [0, 1, 5] (.block 0 (.loop (.seq (.seq (.ops false [⟨some 12, none, .mv (.t 5)⟩, ⟨some 13, none, .bin .geq (.t 12) (.c (.one (.lit (.int .i64 0))))⟩])
 (.fg [0, 1, 5, 13] (.cond (.t 13) .skip (.exit 0))))
 (.fg [0, 1, 5] (.seq (.block 1 (.seq (.ops false [⟨some 16, none, .mv (.t 0)⟩, ⟨some 17, none, .mv (.t 5)⟩, ⟨some 18, none, .call f_linkworkref01_at [(.t 16), (.t 17)]⟩, ⟨some 19, none, .mv (.t 1)⟩, ⟨some 20, none, .mv (.t 5)⟩, ⟨some 21, none, .call f_linkworkref01_at [(.t 19), (.t 20)]⟩, ⟨some 22, none, .bin .neq (.t 18) (.t 21)⟩])
 (.fg [0, 1, 5, 22] (.cond (.t 22) (.seq (.seq (.ops false [⟨some 23, none, .mv (.t 0)⟩, ⟨some 24, none, .mv (.t 5)⟩, ⟨some 25, none, .call f_linkworkref01_at [(.t 23), (.t 24)]⟩, ⟨some 26, none, .mv (.t 1)⟩, ⟨some 27, none, .mv (.t 5)⟩, ⟨some 28, none, .call f_linkworkref01_at [(.t 26), (.t 27)]⟩, ⟨some 29, none, .bin .lss (.t 25) (.t 28)⟩])
 (.fg [29] (.cond (.t 29) (.seq (.ops false [⟨some 4, none, .mv (.c (.one (.lit (.int .i64 (-1)))))⟩])
 .ret) .skip)))
 (.fg [] (.seq (.ops false [⟨some 4, none, .mv (.c (.one (.lit (.int .i64 1))))⟩])
 .ret))) .skip))))
 (.fg [0, 1, 5] (.ops false [⟨some 14, none, .mv (.t 5)⟩, ⟨some 15, none, .bin .sub (.t 14) (.c (.one (.lit (.int .i64 1))))⟩, ⟨some 5, none, .mv (.t 15)⟩])))))))))
 (.fg [] (.seq (.ops false [⟨some 4, none, .mv (.c (.one (.lit (.int .i64 0))))⟩])
 .ret)))))

/-- linkwork/linkworkref01.bits (25) [.tmp 2] -/
def ac_linkworkref01_bits : AC := (.seq (.ops false [⟨some 2, none, .mv (.c (.one (.lit (.int .i64 0))))⟩])
 (.fg [0] (.seq (.seq (.ops false [⟨some 5, none, .mv (.t 0)⟩, ⟨some 6, none, .len (.t 5)⟩, ⟨some 7, none, .bin .eql (.t 6) (.c (.one (.lit (.int .i64 0))))⟩])
 (.fg [0, 7] (.cond (.t 7) (.seq (.ops false [⟨some 2, none, .mv (.c (.one (.lit (.int .i64 0))))⟩])
 .ret) .skip)))
 (.fg [0] (.seq (.ops false [⟨some 8, none, .mv (.t 0)⟩, ⟨some 9, none, .len (.t 8)⟩, ⟨some 10, none, .bin .sub (.t 9) (.c (.one (.lit (.int .i64 1))))⟩, ⟨some 11, none, .bin .mul (.c (.one (.lit (.int .i64 32)))) (.t 10)⟩, ⟨some 3, none, .mv (.t 11)⟩])
 (.fg [0, 3] (.seq (.seq (.ops false [⟨some 12, none, .mv (.t 0)⟩, ⟨some 13, none, .mv (.t 0)⟩, ⟨some 14, none, .len (.t 13)⟩, ⟨some 15, none, .bin .sub (.t 14) (.c (.one (.lit (.int .i64 1))))⟩, ⟨some 16, none, .idx 1 (.t 12) (.t 15)⟩, ⟨some 17, none, .ld none 1 false (.t 16)⟩, ⟨some 4, none, .mv (.t 17)⟩])
 (.fg [3, 4] (.block 0 (.loop (.seq (.seq (.ops false [⟨some 18, none, .mv (.t 4)⟩, ⟨some 19, none, .bin .gtr (.t 18) (.c (.one (.lit (.int .u32 0))))⟩])
 (.fg [3, 4, 19] (.cond (.t 19) .skip (.exit 0))))
 (.fg [3, 4] (.seq (.block 1 (.ops false [⟨some 22, none, .mv (.t 3)⟩, ⟨some 23, none, .bin .add (.t 22) (.c (.one (.lit (.int .i64 1))))⟩, ⟨some 3, none, .mv (.t 23)⟩]))
 (.fg [3, 4] (.ops false [⟨some 20, none, .mv (.t 4)⟩, ⟨some 21, none, .bin .shr (.t 20) (.c (.one (.lit (.int .u64 1))))⟩, ⟨some 4, none, .mv (.t 21)⟩])))))))))
 (.fg [3] (.seq (.ops false [⟨some 24, none, .mv (.t 3)⟩, ⟨some 2, none, .mv (.t 24)⟩])
 .ret)))))))))

/-- linkwork/linkworkref01.times (68) [.tmp 4] -/
def ac_linkworkref01_times (f_linkworkref01_trim : Nat) : AC := (.seq (.ops false [⟨some 4, none, .mv (.c (.one .emp))⟩])
 (.fg [0, 1] (.seq (.ops false [⟨some 10, none, .mv (.t 0)⟩, ⟨some 11, none, .len (.t 10)⟩, ⟨some 12, none, .mv (.t 1)⟩, ⟨some 13, none, .len (.t 12)⟩, ⟨some 14, none, .bin .add (.t 11) (.t 13)⟩, ⟨some 15, none, .mk 1 [(.lit (.int .u32 0))] (.t 14) (.t 14)⟩, ⟨some 5, none, .mv (.t 15)⟩])
 (.fg [0, 1, 5] (.seq (.seq (.ops false [⟨some 16, none, .mv (.t 0)⟩, ⟨some 17, none, .len (.t 16)⟩, ⟨some 18, none, .mv (.c (.one (.lit (.int .i64 0))))⟩])
 (.fg [0, 1, 5, 17, 18] (.block 0 (.loop (.seq (.ops false [⟨some 19, none, .bin .lss (.t 18) (.t 17)⟩])
 (.fg [0, 1, 5, 17, 18, 19] (.seq (.cond (.t 19) .skip (.exit 0))
 (.fg [0, 1, 5, 17, 18] (.seq (.block 1 (.seq (.ops false [⟨some 20, none, .mv (.t 18)⟩, ⟨some 6, none, .mv (.t 20)⟩])
 (.fg [0, 1, 5, 6, 17, 18] (.seq (.ops false [⟨some 7, none, .mv (.c (.one (.lit (.int .u64 0))))⟩])
 (.fg [0, 1, 5, 6, 7, 17, 18] (.seq (.seq (.ops false [⟨some 21, none, .mv (.t 1)⟩, ⟨some 22, none, .len (.t 21)⟩, ⟨some 23, none, .mv (.c (.one (.lit (.int .i64 0))))⟩])
 (.fg [0, 1, 5, 6, 7, 17, 18, 22, 23] (.block 2 (.loop (.seq (.ops false [⟨some 24, none, .bin .lss (.t 23) (.t 22)⟩])
 (.fg [0, 1, 5, 6, 7, 17, 18, 22, 23, 24] (.seq (.cond (.t 24) .skip (.exit 2))
 (.fg [0, 1, 5, 6, 7, 17, 18, 22, 23] (.seq (.block 3 (.seq (.ops false [⟨some 25, none, .mv (.t 23)⟩, ⟨some 8, none, .mv (.t 25)⟩])
 (.fg [0, 1, 5, 6, 7, 8, 17, 18, 22, 23] (.seq (.ops true [⟨some 26, none, .mv (.t 0)⟩, ⟨some 27, none, .mv (.t 6)⟩, ⟨some 28, none, .idx 1 (.t 26) (.t 27)⟩, ⟨some 29, none, .ld none 1 false (.t 28)⟩, ⟨some 30, none, .conv .u64 (.t 29)⟩, ⟨some 31, none, .mv (.t 1)⟩, ⟨some 32, none, .mv (.t 8)⟩, ⟨some 33, none, .idx 1 (.t 31) (.t 32)⟩, ⟨some 34, none, .ld none 1 false (.t 33)⟩, ⟨some 35, none, .conv .u64 (.t 34)⟩, ⟨some 36, none, .bin .mul (.t 30) (.t 35)⟩, ⟨some 37, none, .mv (.t 5)⟩, ⟨some 38, none, .mv (.t 6)⟩, ⟨some 39, none, .mv (.t 8)⟩, ⟨some 40, none, .bin .add (.t 38) (.t 39)⟩, ⟨some 41, none, .idx 1 (.t 37) (.t 40)⟩, ⟨some 42, none, .ld none 1 false (.t 41)⟩, ⟨some 43, none, .conv .u64 (.t 42)⟩, ⟨some 44, none, .bin .add (.t 36) (.t 43)⟩, ⟨some 45, none, .mv (.t 7)⟩, ⟨some 46, none, .bin .add (.t 44) (.t 45)⟩, ⟨some 9, none, .mv (.t 46)⟩])
 (.fg [0, 1, 5, 6, 8, 9, 17, 18, 22, 23] (.ops false [⟨some 47, none, .mv (.t 5)⟩, ⟨some 48, none, .mv (.t 6)⟩, ⟨some 49, none, .mv (.t 8)⟩, ⟨some 50, none, .bin .add (.t 48) (.t 49)⟩, ⟨some 51, none, .mv (.t 9)⟩, ⟨some 52, none, .conv .u32 (.t 51)⟩, ⟨some 53, none, .mv (.t 9)⟩, ⟨some 54, none, .bin .shr (.t 53) (.c (.one (.lit (.int .u64 32))))⟩, ⟨some 55, none, .idx 1 (.t 47) (.t 50)⟩, ⟨none, none, .st none 1 (.t 55) (.t 52)⟩, ⟨some 7, none, .mv (.t 54)⟩]))))))
 (.fg [0, 1, 5, 6, 7, 17, 18, 22, 23] (.ops false [⟨some 56, none, .bin .add (.t 23) (.c (.one (.lit (.int .i64 1))))⟩, ⟨some 23, none, .mv (.t 56)⟩])))))))))))
 (.fg [0, 1, 5, 6, 7, 17, 18] (.ops false [⟨some 57, none, .mv (.t 5)⟩, ⟨some 58, none, .mv (.t 6)⟩, ⟨some 59, none, .mv (.t 1)⟩, ⟨some 60, none, .len (.t 59)⟩, ⟨some 61, none, .bin .add (.t 58) (.t 60)⟩, ⟨some 62, none, .mv (.t 7)⟩, ⟨some 63, none, .conv .u32 (.t 62)⟩, ⟨some 64, none, .idx 1 (.t 57) (.t 61)⟩, ⟨none, none, .st none 1 (.t 64) (.t 63)⟩]))))))))
 (.fg [0, 1, 5, 17, 18] (.ops false [⟨some 65, none, .bin .add (.t 18) (.c (.one (.lit (.int .i64 1))))⟩, ⟨some 18, none, .mv (.t 65)⟩])))))))))))
 (.fg [5] (.seq (.ops false [⟨some 66, none, .mv (.t 5)⟩, ⟨some 67, none, .callf f_linkworkref01_trim [(.t 66)]⟩, ⟨some 4, none, .mv (.t 67)⟩])
 .ret)))))))



theorem tr01_sound (hΓ : Holds P Γ) {f : Nat} (hc : check P f = some (25, ac_linkworkref01_trim.strip, [.tmp 2])) : Sound P f (.fresh 1 tr01_G) := by
  refine sound_fresh hc tr01_good hΓ (fun args K hcl hfi hG => ?_)
  match args, hG with
  | [a], hG =>
    obtain ⟨l, ha, hl, hlen, hK⟩ := hG
    refine ⟨by simp, ?_⟩
    rcases ha with rfl | rfl | ⟨rfl, h0⟩
    · simp only [go_sem, ↓reduceIte, Nat.reduceEqDiff, Nat.reduceAdd, Nat.reduceLT, Nat.reduceLeDiff, Int.reduceToNat, Nat.reducePow, Nat.reduceMul, reduceCtorEq, ac_linkworkref01_trim, ws]
      refine ⟨hlen, ?_⟩
      refine wpA_loop (fun n : Nat => ⟨mkV [(3, .one (.own 6 1 1 0 n))], mkH [(6, ⟨1, some ⟨l.map wc, 1, true⟩⟩)]⟩) (fun n => n ≤ l.length ∧ val (l.take n) = val l) id l.length ?_ ?_ ?_
      · first | exact weak_lit (by simp [okS, okV, okC, okL, okH, okB, okE, mkV_cons, mkV_nil, mkH_cons, mkH_nil, wsA, ws]) (okH_1 rfl) | (subst h0; exact weak_lit (by simp [okS, okV, okC, okL, okH, okB, okE, mkV_cons, mkV_nil, mkH_cons, mkH_nil, wsA, ws]) (okH_1 (l := []) rfl))
      · simp
      · rintro n ⟨hn, ht⟩
        simp only [go_sem, ↓reduceIte, Nat.reduceEqDiff, Nat.reduceAdd, Nat.reduceLT, Nat.reduceLeDiff, Int.reduceToNat, Nat.reducePow, Nat.reduceMul, reduceCtorEq]
        refine fun hm => ⟨fun h => ?_, fun h => ?_⟩
        · rw [show ((n : Int) - 1).toNat = n - 1 by omega]
          refine fun _ => ⟨by omega, by omega, by omega, fun h0 => fun _ => ⟨by omega, by omega, by omega, n - 1, weak_lit (by simp [okS, okV, okC, okL, okH, okB, okE, mkV_cons, mkV_nil, mkH_cons, mkH_nil, wsA, ws]) (okH_1 rfl), ⟨by omega, ?_⟩, ?_⟩, fun h0 => ?_⟩
          · have := take_succ l (n - 1)
            rw [show n - 1 + 1 = n by omega, h0, Nat.mul_zero, Nat.add_zero] at this
            rw [← this]; exact ht
          · simp only [id]; omega
          · have := digs_val (WL_take hl n) (NZ_take h hn h0)
            rw [ht] at this
            rw [this] at hK
            exact ⟨hn, hK⟩
        · have h1 : n = 0 := by omega
          subst h1
          have : val l = 0 := by rw [← ht]; simp [val]
          rw [this, digs_zero] at hK
          exact ⟨by omega, hK⟩
    · simp only [go_sem, ↓reduceIte, Nat.reduceEqDiff, Nat.reduceAdd, Nat.reduceLT, Nat.reduceLeDiff, Int.reduceToNat, Nat.reducePow, Nat.reduceMul, reduceCtorEq, ac_linkworkref01_trim, ws]
      refine ⟨hlen, ?_⟩
      refine wpA_loop (fun n : Nat => ⟨mkV [(3, .one (.own 6 1 1 0 n))], mkH [(6, ⟨1, some ⟨l.map wc, 1, true⟩⟩)]⟩) (fun n => n ≤ l.length ∧ val (l.take n) = val l) id l.length ?_ ?_ ?_
      · first | exact weak_lit (by simp [okS, okV, okC, okL, okH, okB, okE, mkV_cons, mkV_nil, mkH_cons, mkH_nil, wsA, ws]) (okH_1 rfl) | (subst h0; exact weak_lit (by simp [okS, okV, okC, okL, okH, okB, okE, mkV_cons, mkV_nil, mkH_cons, mkH_nil, wsA, ws]) (okH_1 (l := []) rfl))
      · simp
      · rintro n ⟨hn, ht⟩
        simp only [go_sem, ↓reduceIte, Nat.reduceEqDiff, Nat.reduceAdd, Nat.reduceLT, Nat.reduceLeDiff, Int.reduceToNat, Nat.reducePow, Nat.reduceMul, reduceCtorEq]
        refine fun hm => ⟨fun h => ?_, fun h => ?_⟩
        · rw [show ((n : Int) - 1).toNat = n - 1 by omega]
          refine fun _ => ⟨by omega, by omega, by omega, fun h0 => fun _ => ⟨by omega, by omega, by omega, n - 1, weak_lit (by simp [okS, okV, okC, okL, okH, okB, okE, mkV_cons, mkV_nil, mkH_cons, mkH_nil, wsA, ws]) (okH_1 rfl), ⟨by omega, ?_⟩, ?_⟩, fun h0 => ?_⟩
          · have := take_succ l (n - 1)
            rw [show n - 1 + 1 = n by omega, h0, Nat.mul_zero, Nat.add_zero] at this
            rw [← this]; exact ht
          · simp only [id]; omega
          · have := digs_val (WL_take hl n) (NZ_take h hn h0)
            rw [ht] at this
            rw [this] at hK
            exact ⟨hn, hK⟩
        · have h1 : n = 0 := by omega
          subst h1
          have : val l = 0 := by rw [← ht]; simp [val]
          rw [this, digs_zero] at hK
          exact ⟨by omega, hK⟩
    · simp only [go_sem, ↓reduceIte, Nat.reduceEqDiff, Nat.reduceAdd, Nat.reduceLT, Nat.reduceLeDiff, Int.reduceToNat, Nat.reducePow, Nat.reduceMul, reduceCtorEq, ac_linkworkref01_trim, ws]
      refine ⟨by simp, ?_⟩
      refine wpA_loop (fun n : Nat => ⟨mkV [(3, .one (.own 6 1 1 0 n))], mkH [(6, ⟨1, some ⟨l.map wc, 1, true⟩⟩)]⟩) (fun n => n ≤ l.length ∧ val (l.take n) = val l) id l.length ?_ ?_ ?_
      · first | exact weak_lit (by simp [okS, okV, okC, okL, okH, okB, okE, mkV_cons, mkV_nil, mkH_cons, mkH_nil, wsA, ws]) (okH_1 rfl) | (subst h0; exact weak_lit (by simp [okS, okV, okC, okL, okH, okB, okE, mkV_cons, mkV_nil, mkH_cons, mkH_nil, wsA, ws]) (okH_1 (l := []) rfl))
      · simp
      · rintro n ⟨hn, ht⟩
        simp only [go_sem, ↓reduceIte, Nat.reduceEqDiff, Nat.reduceAdd, Nat.reduceLT, Nat.reduceLeDiff, Int.reduceToNat, Nat.reducePow, Nat.reduceMul, reduceCtorEq]
        refine fun hm => ⟨fun h => ?_, fun h => ?_⟩
        · rw [show ((n : Int) - 1).toNat = n - 1 by omega]
          refine fun _ => ⟨by omega, by omega, by omega, fun h0 => fun _ => ⟨by omega, by omega, by omega, n - 1, weak_lit (by simp [okS, okV, okC, okL, okH, okB, okE, mkV_cons, mkV_nil, mkH_cons, mkH_nil, wsA, ws]) (okH_1 rfl), ⟨by omega, ?_⟩, ?_⟩, fun h0 => ?_⟩
          · have := take_succ l (n - 1)
            rw [show n - 1 + 1 = n by omega, h0, Nat.mul_zero, Nat.add_zero] at this
            rw [← this]; exact ht
          · simp only [id]; omega
          · have := digs_val (WL_take hl n) (NZ_take h hn h0)
            rw [ht] at this
            rw [this] at hK
            exact ⟨hn, hK⟩
        · have h1 : n = 0 := by omega
          subst h1
          have : val l = 0 := by rw [← ht]; simp [val]
          rw [this, digs_zero] at hK
          exact ⟨by omega, hK⟩

theorem plus01_sound (hΓ : Holds P Γ) {f fw ft : Nat} (hw : Γ fw = .dat true word_G) (ht : Γ ft = .fresh 1 tr01_G) (hc : check P f = some (37, (ac_linkworkref01_plus fw ft).strip, [.tmp 4])) : Sound P f (.dat false plus_G) := by
  refine sound_dat hc plus_good hΓ (fun args K hcl hfi hG => ?_)
  match args, hG with
  | [a, b], hG =>
    obtain ⟨x, rfl, hx, y, rfl, hy, hxl, hyl, hK⟩ := hG
    refine ⟨by simp, ?_⟩
    simp only [go_sem, ↓reduceIte, Nat.reduceEqDiff, Nat.reduceAdd, Nat.reduceLT, Nat.reduceLeDiff, Int.reduceToNat, Nat.reducePow, Nat.reduceMul, reduceCtorEq, ac_linkworkref01_plus, hw, ht]
    intro h1 h2
    refine ⟨by omega, ?_⟩
    generalize hN : max x.length y.length + 1 = N
    refine wpA_loop (fun p : List Nat × Nat => match p.1 with
        | [] => ⟨mkV [(0, wsA x), (1, wsA y), (5, .one .emp), (6, .one (.lit (.int .u64 p.2))), (14, .one (.lit (.int .i64 N))), (15, .one (.lit (.int .i64 0)))], mkH []⟩
        | a :: r => ⟨mkV [(0, wsA x), (1, wsA y), (5, .one (.own 31 1 1 0 (r.length + 1))), (6, .one (.lit (.int .u64 p.2))), (14, .one (.lit (.int .i64 N))), (15, .one (.lit (.int .i64 (r.length + 1 : Nat))))], mkH [(31, ⟨1, some ⟨(a :: r).map wc, 1, true⟩⟩)]⟩)
      (fun p => p.1.length ≤ N ∧ WL p.1 ∧ p.2 ≤ 1 ∧ val p.1 + 4294967296 ^ p.1.length * p.2 = val (x.take p.1.length) + val (y.take p.1.length)) (fun p => N - p.1.length) ([], 0) ?_ ?_ ?_
    · exact weak_lit (by simp [okS, okV, okC, okL, okH, okB, okE, mkV_cons, mkV_nil, mkH_cons, mkH_nil, wsA, ws]) trivial
    · simp [WL_nil, val]
    · rintro ⟨o, c⟩ ⟨hoN, ho, hc1, hval⟩
      simp only at hoN ho hc1 hval
      cases o with
      | nil =>
        simp only [go_sem, ↓reduceIte, Nat.reduceEqDiff, Nat.reduceAdd, Nat.reduceLT, Nat.reduceLeDiff, Int.reduceToNat, Nat.reducePow, Nat.reduceMul, reduceCtorEq, hw, ht]
        refine ⟨fun hlt => ?_, fun hge => by omega⟩
        have g1 := WL_getD hx 0
        have g2 := WL_getD hy 0
        rw [Nat.mod_eq_of_lt (show x.getD 0 0 + y.getD 0 0 < 18446744073709551616 by omega), Nat.mod_eq_of_lt (show x.getD 0 0 + y.getD 0 0 + c < 18446744073709551616 by omega)]
        generalize hs : x.getD 0 0 + y.getD 0 0 + c = s
        refine ⟨hx, by omega, hy, by omega, by simp, by decide, by decide, ([s % 4294967296], s / 4294967296), weak_lit (by simp [okS, okV, okC, okL, okH, okB, okE, mkV_cons, mkV_nil, mkH_cons, mkH_nil, wsA, ws]) (okH_1 (l := [s % 4294967296]) rfl), ⟨by simp; omega, WL_cons.2 ⟨Nat.mod_lt _ (by omega), WL_nil⟩, by simp only; omega, ?_⟩, by simp; omega⟩
        have t1 := take_succ x 0
        have t2 := take_succ y 0
        simp only [List.length_cons, List.length_nil, Nat.zero_add, List.take_zero, val_nil, val_cons, Nat.pow_zero, Nat.pow_one, Nat.mul_zero] at t1 t2 hval ⊢
        omega
      | cons a r =>
        simp only [go_sem, ↓reduceIte, Nat.reduceEqDiff, Nat.reduceAdd, Nat.reduceLT, Nat.reduceLeDiff, Int.reduceToNat, Nat.reducePow, Nat.reduceMul, reduceCtorEq, hw, ht]
        refine ⟨fun hlt => ?_, fun hge => ?_⟩
        · have g1 := WL_getD hx (r.length + 1)
          have g2 := WL_getD hy (r.length + 1)
          rw [Nat.mod_eq_of_lt (show x.getD (r.length + 1) 0 + y.getD (r.length + 1) 0 < 18446744073709551616 by omega), Nat.mod_eq_of_lt (show x.getD (r.length + 1) 0 + y.getD (r.length + 1) 0 + c < 18446744073709551616 by omega)]
          generalize hs : x.getD (r.length + 1) 0 + y.getD (r.length + 1) 0 + c = s
          refine ⟨hx, hy, by simp, by omega, by decide, by omega, (a :: (r ++ [s % 4294967296]), s / 4294967296), weak_lit (by simp [okS, okV, okC, okL, okH, okB, okE, mkV_cons, mkV_nil, mkH_cons, mkH_nil, wsA, ws]) (okH_1' (l' := a :: (r ++ [s % 4294967296])) (by simp [wc])), ⟨by simp; omega, ?_, by simp only; omega, ?_⟩, by simp; omega⟩
          · exact WL_append (a := a :: r) |>.2 ⟨ho, WL_cons.2 ⟨Nat.mod_lt _ (by omega), WL_nil⟩⟩
          · have t1 := take_succ x (r.length + 1)
            have t2 := take_succ y (r.length + 1)
            have e : a :: (r ++ [s % 4294967296]) = (a :: r) ++ [s % 4294967296] := rfl
            simp only [e, List.length_append, List.length_cons, List.length_nil, Nat.zero_add, val_append, t1, t2]
            simp only [List.length_cons] at hval
            rw [show val [s % 4294967296] = s % 4294967296 from by simp [val], Nat.pow_succ 4294967296 (r.length + 1)]
            exact plus_aux hval (by rw [Nat.mod_add_div, hs])
        · have e : r.length + 1 = N := by simp only [List.length_cons] at hoN; omega
          have hv : val (a :: r) = val x + val y := by
            rw [List.length_cons, e, take_all (by omega), take_all (by omega)] at hval
            exact sum_fits hx hy (by omega) (by omega) (by omega) hval
          refine (onWx_e _ (a :: r)).mpr ⟨ho, by simp only [List.length_cons]; omega, ?_⟩
          rw [hv]; exact hK

theorem minus01_sound (hΓ : Holds P Γ) {f fw ft : Nat} (hw : Γ fw = .dat true word_G) (ht : Γ ft = .fresh 1 tr01_G) (hc : check P f = some (35, (ac_linkworkref01_minus fw ft).strip, [.tmp 4])) : Sound P f (.dat false less_G) := by
  refine sound_dat hc less_good hΓ (fun args K hcl hfi hG => ?_)
  match args, hG with
  | [a, b], hG =>
    obtain ⟨x, rfl, hx, y, rfl, hy, hxl, hle, hK⟩ := hG
    refine ⟨by simp, ?_⟩
    simp only [go_sem, ↓reduceIte, Nat.reduceEqDiff, Nat.reduceAdd, Nat.reduceLT, Nat.reduceLeDiff, Int.reduceToNat, Nat.reducePow, Nat.reduceMul, reduceCtorEq, ac_linkworkref01_minus, hw, ht]
    intro h1
    generalize hN : x.length = N at *
    refine wpA_loop (fun p : List Nat × Nat => match p.1 with
        | [] => ⟨mkV [(0, wsA x), (1, wsA y), (5, .one .emp), (6, .one (.lit (.int .u64 p.2))), (10, .one (.lit (.int .i64 N))), (11, .one (.lit (.int .i64 0)))], mkH []⟩
        | a :: r => ⟨mkV [(0, wsA x), (1, wsA y), (5, .one (.own 28 1 1 0 (r.length + 1))), (6, .one (.lit (.int .u64 p.2))), (10, .one (.lit (.int .i64 N))), (11, .one (.lit (.int .i64 (r.length + 1 : Nat))))], mkH [(28, ⟨1, some ⟨(a :: r).map wc, 1, true⟩⟩)]⟩)
      (fun p => p.1.length ≤ N ∧ WL p.1 ∧ p.2 ≤ 1 ∧ val p.1 + val (y.take p.1.length) = val (x.take p.1.length) + 4294967296 ^ p.1.length * p.2) (fun p => N - p.1.length) ([], 0) ?_ ?_ ?_
    · exact weak_lit (by simp [okS, okV, okC, okL, okH, okB, okE, mkV_cons, mkV_nil, mkH_cons, mkH_nil, wsA, ws]) trivial
    · simp [WL_nil, val]
    · rintro ⟨o, c⟩ ⟨hoN, ho, hc1, hval⟩
      simp only at hoN ho hc1 hval
      cases o with
      | nil =>
        have g1 := WL_getD hx 0
        have g2 := WL_getD hy 0
        obtain ⟨s, e1, e2, e3, e4⟩ := minus_e g1 g2 hc1
        simp only [go_sem, ↓reduceIte, Nat.reduceEqDiff, Nat.reduceAdd, Nat.reduceLT, Nat.reduceLeDiff, Int.reduceToNat, Nat.reducePow, Nat.reduceMul, reduceCtorEq, hw, ht, e1, e2]
        refine ⟨fun hlt => ?_, fun hge => ?_⟩
        · refine ⟨hx, by omega, hy, by omega, by simp, ⟨by omega, by decide⟩, by decide, ([s % 4294967296], 1 - s / 4294967296), weak_lit (by simp [okS, okV, okC, okL, okH, okB, okE, mkV_cons, mkV_nil, mkH_cons, mkH_nil, wsA, ws, e2]) (okH_1' (l' := [s % 4294967296]) (by simp [wc])), ⟨by simp; omega, WL_cons.2 ⟨Nat.mod_lt _ (by omega), WL_nil⟩, e4, ?_⟩, by simp; omega⟩
          have t1 := take_succ x 0
          have t2 := take_succ y 0
          simp only [List.length_cons, List.length_nil, Nat.zero_add, List.take_zero, val_nil, val_cons, Nat.pow_zero, Nat.pow_one, Nat.mul_zero] at t1 t2 hval ⊢
          omega
        · have hx0 : x = [] := List.eq_nil_of_length_eq_zero (by omega)
          have : val x - val y = val [] := by rw [hx0]; simp [val]
          rw [← this]; exact hK
      | cons a r =>
        have g1 := WL_getD hx (r.length + 1)
        have g2 := WL_getD hy (r.length + 1)
        obtain ⟨s, e1, e2, e3, e4⟩ := minus_e g1 g2 hc1
        simp only [go_sem, ↓reduceIte, Nat.reduceEqDiff, Nat.reduceAdd, Nat.reduceLT, Nat.reduceLeDiff, Int.reduceToNat, Nat.reducePow, Nat.reduceMul, reduceCtorEq, hw, ht, e1, e2]
        refine ⟨fun hlt => ?_, fun hge => ?_⟩
        · refine ⟨hx, hy, by simp, by omega, ⟨by omega, by decide⟩, by omega, (a :: (r ++ [s % 4294967296]), 1 - s / 4294967296), weak_lit (by simp [okS, okV, okC, okL, okH, okB, okE, mkV_cons, mkV_nil, mkH_cons, mkH_nil, wsA, ws, e2]) (okH_1' (l' := a :: (r ++ [s % 4294967296])) (by simp [wc])), ⟨by simp; omega, ?_, e4, ?_⟩, by simp; omega⟩
          · exact WL_append (a := a :: r) |>.2 ⟨ho, WL_cons.2 ⟨Nat.mod_lt _ (by omega), WL_nil⟩⟩
          · have e : a :: (r ++ [s % 4294967296]) = (a :: r) ++ [s % 4294967296] := rfl
            simp only [List.length_cons] at hval
            simp only [e, List.length_append, List.length_cons, List.length_nil, Nat.zero_add, take_succ x (r.length + 1), take_succ y (r.length + 1), val_append, val_cons (s % 4294967296), val_nil, Nat.mul_zero, Nat.add_zero, Nat.pow_succ 4294967296 (r.length + 1)]
            exact less_aux hval e3
        · have e : (a :: r).length = N := by simp only [List.length_cons] at hoN ⊢; omega
          have hv := less_end ho hx (by omega) hle hval
          refine (onWx_e _ (a :: r)).mpr ⟨ho, by omega, ?_⟩
          rw [hv]; exact hK

theorem cmp01_sound (hΓ : Holds P Γ) {f fw : Nat} (hw : Γ fw = .dat true word_G) (hc : check P f = some (30, (ac_linkworkref01_compare fw).strip, [.tmp 4])) : Sound P f (.dat true cmp01_G) := by
  refine sound_dat hc cmp01_good hΓ (fun args K hcl hfi hG => ?_)
  match args, hG with
  | [a, b], hG =>
    obtain ⟨x, rfl, hx, y, rfl, hy, hK⟩ := hG
    refine ⟨by simp, ?_⟩
    simp only [go_sem, ↓reduceIte, Nat.reduceEqDiff, Nat.reduceAdd, Nat.reduceLT, Nat.reduceLeDiff, Int.reduceToNat, Nat.reducePow, Nat.reduceMul, reduceCtorEq, ac_linkworkref01_compare, hw]
    intro h1 h2
    refine ⟨⟨by omega, by omega⟩, ?_⟩
    refine wpA_loop (fun n : Nat => ⟨mkV [(0, wsA x), (1, wsA y), (5, .one (.lit (.int .i64 ((n : Int) - 1))))], mkH []⟩) (fun n => n ≤ max x.length y.length ∧ val (x.drop n) = val (y.drop n)) id (max x.length y.length) ?_ ?_ ?_
    · exact weak_lit (by simp [okS, okV, okC, okL, okH, okB, okE, mkV_cons, mkV_nil, mkH_cons, mkH_nil, wsA, ws]) trivial
    · refine ⟨Nat.le_refl _, ?_⟩
      rw [List.drop_of_length_le (by omega), List.drop_of_length_le (by omega)]
    · rintro n ⟨hn, hd⟩
      simp only [go_sem, ↓reduceIte, Nat.reduceEqDiff, Nat.reduceAdd, Nat.reduceLT, Nat.reduceLeDiff, Int.reduceToNat, Nat.reducePow, Nat.reduceMul, reduceCtorEq, hw]
      refine ⟨fun h => ?_, fun h => ?_⟩
      · have e : ((n : Int) - 1).toNat = n - 1 := by omega
        have e1 := val_drop x (n - 1)
        have e2 := val_drop y (n - 1)
        have e3 : n - 1 + 1 = n := by omega
        rw [e3] at e1 e2
        rw [e]
        refine ⟨hx, h, hy, h, fun he => ⟨by omega, n - 1, weak_lit (by simp [okS, okV, okC, okL, okH, okB, okE, mkV_cons, mkV_nil, mkH_cons, mkH_nil, wsA, ws]; omega) trivial, ⟨by omega, by rw [e1, e2, hd, he]⟩, by simp only [id]; omega⟩, fun he => ⟨hx, h, hy, h, fun hlt => ?_, fun hge => ?_⟩⟩
        · rw [ordN_lt (cmp_at hx (by rw [e3]; exact hd) hlt)] at hK; exact hK
        · rw [ordN_gt (cmp_at (m := n - 1) hy (by rw [e3]; exact hd.symm) (by omega))] at hK; exact hK
      · have : n = 0 := by omega
        subst this
        have : val x = val y := hd
        rw [this, ordN_eq] at hK; exact hK

theorem bits01_sound (hΓ : Holds P Γ) {f : Nat} (hc : check P f = some (25, ac_linkworkref01_bits.strip, [.tmp 2])) : Sound P f (.dat true bits01_G) := by
  refine sound_dat hc bits01_good hΓ (fun args K hcl hfi hG => ?_)
  match args, hG with
  | [a], hG =>
    obtain ⟨x, rfl, hx, hxl, hK⟩ := hG
    refine ⟨by simp, ?_⟩
    simp only [go_sem, ↓reduceIte, Nat.reduceEqDiff, Nat.reduceAdd, Nat.reduceLT, Nat.reduceLeDiff, Int.reduceToNat, Nat.reducePow, Nat.reduceMul, reduceCtorEq, ac_linkworkref01_bits]
    intro h1
    refine ⟨fun h => ?_, fun h _ => ⟨by omega, by omega, fun _ => ⟨by omega, by omega, by omega, ?_⟩⟩⟩
    · rw [if_pos h] at hK; exact hK
    rw [if_neg h] at hK
    have e : ((x.length : Int) - 1).toNat = x.length - 1 := by omega
    rw [e]
    have hb := WL_getD hx (x.length - 1)
    generalize x.getD (x.length - 1) 0 = w at *
    have hb32 : bln w ≤ 32 := bln_le (by omega)
    refine wpA_loop (fun p : Nat × Nat => ⟨mkV [(3, .one (.lit (.int .i64 (32 * ((x.length : Int) - 1) + p.1)))), (4, .one (.lit (.int .u32 p.2)))], mkH []⟩) (fun p => p.2 < 4294967296 ∧ p.1 + bln p.2 = bln w) (fun p => p.2) (0, w) ?_ ?_ ?_
    · exact weak_lit (by simp [okS, okV, okC, okL, okH, okB, okE, mkV_cons, mkV_nil, mkH_cons, mkH_nil, wsA, ws]) trivial
    · exact ⟨hb, by simp⟩
    · rintro ⟨i, m⟩ ⟨hm, hi⟩
      simp only at hm hi
      simp only [go_sem, ↓reduceIte, Nat.reduceEqDiff, Nat.reduceAdd, Nat.reduceLT, Nat.reduceLeDiff, Int.reduceToNat, Nat.reducePow, Nat.reduceMul, reduceCtorEq]
      refine ⟨fun h => ?_, fun h => ?_⟩
      · have e := bln_pos (n := m) (by omega)
        refine ⟨by omega, by decide, (i + 1, m / 2), weak_lit (by simp [okS, okV, okC, okL, okH, okB, okE, mkV_cons, mkV_nil, mkH_cons, mkH_nil, wsA, ws]; omega) trivial, ⟨by simp only; omega, by simp only; omega⟩, by simp only; omega⟩
      · have : m = 0 := by omega
        subst this
        rw [bln_zero] at hi
        have e : (32 * ((x.length : Int) - 1) + (i : Int)) = ((32 * (x.length - 1) + bln w : Nat) : Int) := by omega
        rw [e]; exact hK

theorem times01_sound (hΓ : Holds P Γ) {f ft : Nat} (ht : Γ ft = .fresh 1 tr01_G) (hc : check P f = some (68, (ac_linkworkref01_times ft).strip, [.tmp 4])) : Sound P f (.dat false times_G) := by
  refine sound_dat hc times_good hΓ (fun args K hcl hfi hG => ?_)
  match args, hG with
  | [a, b], hG =>
    obtain ⟨x, rfl, hx, y, rfl, hy, hxl, hyl, hK⟩ := hG
    refine ⟨by simp, ?_⟩
    simp only [go_sem, ↓reduceIte, Nat.reduceEqDiff, Nat.reduceAdd, Nat.reduceLT, Nat.reduceLeDiff, Int.reduceToNat, Nat.reducePow, Nat.reduceMul, reduceCtorEq, ac_linkworkref01_times, ht]
    intro h1 h2
    refine ⟨by omega, by omega, fun _ => ?_⟩
    generalize hN : x.length + y.length = N
    refine wpA_loop (fun p : Nat × List Nat => ⟨mkV [(0, wsA x), (1, wsA y), (5, .one (.own 15 1 1 0 N)), (17, .one (.lit (.int .i64 x.length))), (18, .one (.lit (.int .i64 p.1)))], mkH [(15, ⟨1, some ⟨p.2.map wc, 1, true⟩⟩)]⟩)
      (fun p => p.1 ≤ x.length ∧ WL p.2 ∧ p.2.length = N ∧ val p.2 = val (x.take p.1) * val y ∧ ∀ j, p.1 + y.length ≤ j → p.2.getD j 0 = 0) (fun p => x.length - p.1) (0, List.replicate N 0) ?_ ?_ ?_
    · exact weak_lit (by simp [okS, okV, okC, okL, okH, okB, okE, mkV_cons, mkV_nil, mkH_cons, mkH_nil, wsA, ws]) (okH_1 (by simp))
    · simp [WL_rep, val, val_rep]; intro j _; rw [List.getElem?_replicate]; split <;> rfl
    · rintro ⟨i, o⟩ ⟨hi, ho, hoN, hval, hz⟩
      simp only at hi ho hoN hval hz
      simp only [go_sem, ↓reduceIte, Nat.reduceEqDiff, Nat.reduceAdd, Nat.reduceLT, Nat.reduceLeDiff, Int.reduceToNat, Nat.reducePow, Nat.reduceMul, reduceCtorEq, ht, hoN]
      refine ⟨fun hlt => ?_, fun hge => ?_⟩
      · have g1 := WL_getD hx i
        intro _
        refine wpA_loop (fun p : Nat × Nat × List Nat => ⟨mkV [(0, wsA x), (1, wsA y), (5, .one (.own 15 1 1 0 N)), (6, .one (.lit (.int .i64 i))), (7, .one (.lit (.int .u64 p.2.1))), (17, .one (.lit (.int .i64 x.length))), (18, .one (.lit (.int .i64 i))), (22, .one (.lit (.int .i64 y.length))), (23, .one (.lit (.int .i64 p.1)))], mkH [(15, ⟨1, some ⟨p.2.2.map wc, 1, true⟩⟩)]⟩)
          (fun p => p.1 ≤ y.length ∧ p.2.1 < 4294967296 ∧ WL p.2.2 ∧ p.2.2.length = N ∧ val p.2.2 + 4294967296 ^ i * 4294967296 ^ p.1 * p.2.1 = val (x.take i) * val y + 4294967296 ^ i * x.getD i 0 * val (y.take p.1) ∧ ∀ j, i + y.length ≤ j → p.2.2.getD j 0 = 0) (fun p => y.length - p.1) (0, 0, o) ?_ ?_ ?_
        · exact weak_lit (by simp [okS, okV, okC, okL, okH, okB, okE, mkV_cons, mkV_nil, mkH_cons, mkH_nil, wsA, ws]) (okH_1 rfl)
        · exact ⟨Nat.zero_le _, by simp, ho, hoN, by simp [val, hval], hz⟩
        · rintro ⟨k, c, o⟩ ⟨hk, hc, ho, hoN, hval, hz⟩
          simp only at hk hc ho hoN hval hz
          simp only [go_sem, ↓reduceIte, Nat.reduceEqDiff, Nat.reduceAdd, Nat.reduceLT, Nat.reduceLeDiff, Int.reduceToNat, Nat.reducePow, Nat.reduceMul, reduceCtorEq, ht, hoN]
          refine ⟨fun hlt2 => ?_, fun hge2 => ?_⟩
          · have g2 := WL_getD hy k
            have g3 := WL_getD ho (i + k)
            have s1 := mul_lt64 g1 g2 hc g3
            have e1 : x.getD i 0 % 18446744073709551616 = x.getD i 0 := by omega
            have e2 : y.getD k 0 % 18446744073709551616 = y.getD k 0 := by omega
            have e3 : o.getD (i + k) 0 % 18446744073709551616 = o.getD (i + k) 0 := by omega
            have hstep := times_step hval (by omega) rfl
            rw [e1, e2, e3, Nat.mod_eq_of_lt (show x.getD i 0 * y.getD k 0 < 18446744073709551616 by omega), Nat.mod_eq_of_lt (show x.getD i 0 * y.getD k 0 + o.getD (i + k) 0 < 18446744073709551616 by omega), Nat.mod_eq_of_lt (show x.getD i 0 * y.getD k 0 + o.getD (i + k) 0 + c < 18446744073709551616 by omega), Nat.add_comm _ c]
            generalize hs : c + (x.getD i 0 * y.getD k 0 + o.getD (i + k) 0) = s at s1 hstep
            refine ⟨hlt, hlt2, by omega, by omega, by omega, by omega, by decide, by omega, by omega, by omega, (k + 1, s / 4294967296, o.set (i + k) (s % 4294967296)), weak_lit (by simp [okS, okV, okC, okL, okH, okB, okE, mkV_cons, mkV_nil, mkH_cons, mkH_nil, wsA, ws]) (okH_1 rfl), ⟨by simp only; omega, by simp only; omega, WL_set ho _ (Nat.mod_lt _ (by omega)), by simp [hoN], hstep, ?_⟩, by simp only; omega⟩
            intro j hj
            simp only
            rw [Num.getD_set_ne (by omega)]; exact hz j hj
          · have e : k = y.length := by omega
            subst e
            have hend := times_end hval (by omega) (hz _ (Nat.le_refl _))
            rw [Nat.mod_eq_of_lt hc]
            refine fun _ => ⟨by omega, by omega, by omega, by omega, (i + 1, o.set (i + y.length) c), weak_lit (by simp [okS, okV, okC, okL, okH, okB, okE, mkV_cons, mkV_nil, mkH_cons, mkH_nil, wsA, ws]) (okH_1 rfl), ⟨by simp only; omega, WL_set ho _ hc, by simp [hoN], hend, ?_⟩, by simp only; omega⟩
            intro j hj
            simp only at hj ⊢
            rw [Num.getD_set_ne (by omega)]; exact hz j (by omega)
      · have e : i = x.length := by omega
        subst e
        rw [take_all (Nat.le_refl _)] at hval
        refine ⟨ho, by omega, ?_⟩
        rw [hval]; exact hK

end Go.Abs
end

/-
  The second integers' lists of words: cut, halve, take, which write into their caller's rows.
-/
section
set_option linter.unusedVariables false
set_option linter.unusedSimpArgs false
set_option maxRecDepth 100000
namespace Go.Abs
open Go.Num

variable {P : Program} {Γ : Nat → Spec}

/-- linkwork/linkworkref01.cut (21) [.tmp 2] -/
def ac_linkworkref01_cut : AC := (.seq (.ops false [⟨some 2, none, .mv (.c (.one .emp))⟩])
 (.fg [0] (.seq (.block 0 (.loop (.seq (.seq (.ops false [⟨some 3, none, .mv (.t 0)⟩, ⟨some 4, none, .len (.t 3)⟩, ⟨some 5, none, .bin .gtr (.t 4) (.c (.one (.lit (.int .i64 0))))⟩, ⟨some 6, none, .mv (.t 5)⟩, ⟨some 7, some (6, true), .mv (.t 0)⟩, ⟨some 8, some (6, true), .mv (.t 0)⟩, ⟨some 9, some (6, true), .len (.t 8)⟩, ⟨some 10, some (6, true), .bin .sub (.t 9) (.c (.one (.lit (.int .i64 1))))⟩, ⟨some 11, some (6, true), .idx 1 (.t 7) (.t 10)⟩, ⟨some 12, some (6, true), .ld none 1 false (.t 11)⟩, ⟨some 13, some (6, true), .bin .eql (.t 12) (.c (.one (.lit (.int .u32 0))))⟩, ⟨some 14, none, .pick (.t 6) (.t 13) (.c (.one (.lit (.bool false))))⟩])
 (.fg [0, 14] (.cond (.t 14) .skip (.exit 0))))
 (.fg [0] (.block 1 (.ops false [⟨some 15, none, .mv (.t 0)⟩, ⟨some 16, none, .mv (.t 0)⟩, ⟨some 17, none, .len (.t 16)⟩, ⟨some 18, none, .bin .sub (.t 17) (.c (.one (.lit (.int .i64 1))))⟩, ⟨some 19, none, .sl 1 (.t 15) none (some (.t 18))⟩, ⟨some 0, none, .mv (.t 19)⟩]))))))
 (.fg [0] (.seq (.ops false [⟨some 20, none, .mv (.t 0)⟩, ⟨some 2, none, .mv (.t 20)⟩])
 .ret)))))

/-- linkwork/linkworkref01.halve (26) [.tmp 2] -/
def ac_linkworkref01_halve (f_linkworkref01_at f_linkworkref01_cut : Nat) : AC := (.seq (.ops false [⟨some 2, none, .mv (.c (.one .emp))⟩])
 (.fg [0] (.seq (.seq (.ops false [⟨some 4, none, .mv (.t 0)⟩, ⟨some 5, none, .len (.t 4)⟩, ⟨some 6, none, .mv (.c (.one (.lit (.int .i64 0))))⟩])
 (.fg [0, 5, 6] (.block 0 (.loop (.seq (.ops false [⟨some 7, none, .bin .lss (.t 6) (.t 5)⟩])
 (.fg [0, 5, 6, 7] (.seq (.cond (.t 7) .skip (.exit 0))
 (.fg [0, 5, 6] (.seq (.block 1 (.seq (.ops false [⟨some 8, none, .mv (.t 6)⟩, ⟨some 3, none, .mv (.t 8)⟩])
 (.fg [0, 3, 5, 6] (.ops false [⟨some 9, none, .mv (.t 0)⟩, ⟨some 10, none, .mv (.t 3)⟩, ⟨some 11, none, .mv (.t 0)⟩, ⟨some 12, none, .mv (.t 3)⟩, ⟨some 13, none, .call f_linkworkref01_at [(.t 11), (.t 12)]⟩, ⟨some 14, none, .bin .shr (.t 13) (.c (.one (.lit (.int .u64 1))))⟩, ⟨some 15, none, .mv (.t 0)⟩, ⟨some 16, none, .mv (.t 3)⟩, ⟨some 17, none, .bin .add (.t 16) (.c (.one (.lit (.int .i64 1))))⟩, ⟨some 18, none, .call f_linkworkref01_at [(.t 15), (.t 17)]⟩, ⟨some 19, none, .bin .shl (.t 18) (.c (.one (.lit (.int .u64 31))))⟩, ⟨some 20, none, .bin .or (.t 14) (.t 19)⟩, ⟨some 21, none, .conv .u32 (.t 20)⟩, ⟨some 22, none, .idx 1 (.t 9) (.t 10)⟩, ⟨none, none, .st none 1 (.t 22) (.t 21)⟩]))))
 (.fg [0, 5, 6] (.ops false [⟨some 23, none, .bin .add (.t 6) (.c (.one (.lit (.int .i64 1))))⟩, ⟨some 6, none, .mv (.t 23)⟩])))))))))))
 (.fg [0] (.seq (.ops false [⟨some 24, none, .mv (.t 0)⟩, ⟨some 25, none, .call f_linkworkref01_cut [(.t 24)]⟩, ⟨some 2, none, .mv (.t 25)⟩])
 .ret)))))

/-- linkwork/linkworkref01.take (31) [] -/
def ac_linkworkref01_take (f_linkworkref01_at : Nat) : AC := (.seq (.ops false [⟨some 4, none, .mv (.c (.one (.lit (.int .u64 0))))⟩])
 (.fg [0, 1, 4] (.seq (.ops false [⟨some 7, none, .mv (.t 0)⟩, ⟨some 8, none, .len (.t 7)⟩, ⟨some 9, none, .mv (.c (.one (.lit (.int .i64 0))))⟩])
 (.fg [0, 1, 4, 8, 9] (.block 0 (.loop (.seq (.ops false [⟨some 10, none, .bin .lss (.t 9) (.t 8)⟩])
 (.fg [0, 1, 4, 8, 9, 10] (.seq (.cond (.t 10) .skip (.exit 0))
 (.fg [0, 1, 4, 8, 9] (.seq (.block 1 (.seq (.ops false [⟨some 11, none, .mv (.t 9)⟩, ⟨some 5, none, .mv (.t 11)⟩])
 (.fg [0, 1, 4, 5, 8, 9] (.seq (.ops false [⟨some 12, none, .mv (.t 0)⟩, ⟨some 13, none, .mv (.t 5)⟩, ⟨some 14, none, .call f_linkworkref01_at [(.t 12), (.t 13)]⟩, ⟨some 15, none, .bin .add (.c (.one (.lit (.int .u64 4294967296)))) (.t 14)⟩, ⟨some 16, none, .mv (.t 1)⟩, ⟨some 17, none, .mv (.t 5)⟩, ⟨some 18, none, .call f_linkworkref01_at [(.t 16), (.t 17)]⟩, ⟨some 19, none, .bin .sub (.t 15) (.t 18)⟩, ⟨some 20, none, .mv (.t 4)⟩, ⟨some 21, none, .bin .sub (.t 19) (.t 20)⟩, ⟨some 6, none, .mv (.t 21)⟩])
 (.fg [0, 1, 5, 6, 8, 9] (.ops false [⟨some 22, none, .mv (.t 0)⟩, ⟨some 23, none, .mv (.t 5)⟩, ⟨some 24, none, .mv (.t 6)⟩, ⟨some 25, none, .conv .u32 (.t 24)⟩, ⟨some 26, none, .mv (.t 6)⟩, ⟨some 27, none, .bin .shr (.t 26) (.c (.one (.lit (.int .u64 32))))⟩, ⟨some 28, none, .bin .sub (.c (.one (.lit (.int .u64 1)))) (.t 27)⟩, ⟨some 29, none, .idx 1 (.t 22) (.t 23)⟩, ⟨none, none, .st none 1 (.t 29) (.t 25)⟩, ⟨some 4, none, .mv (.t 28)⟩]))))))
 (.fg [0, 1, 4, 8, 9] (.ops false [⟨some 30, none, .bin .add (.t 9) (.c (.one (.lit (.int .i64 1))))⟩, ⟨some 9, none, .mv (.t 30)⟩])))))))))))))




theorem cut_sound (hΓ : Holds P Γ) {f : Nat} (hc : check P f = some (21, ac_linkworkref01_cut.strip, [.tmp 2])) : Sound P f (.own cut_G) := by
  refine sound_own hc hΓ (fun d args h K hG => ?_)
  unfold cut_G at hG
  split at hG
  case h_2 => exact hG.elim
  rename_i r ver len
  obtain ⟨l, post, rfl, hr, hl, hll, hK⟩ := hG
  refine ⟨[r], [⟨(l ++ post).map wc, 1, true⟩], [.one (.own 1048576 ver 1 0 l.length)], by simp, rfl, ?_, ?_, ?_, fun hfi => ⟨by simp, ?_⟩⟩
  · intro i r' b h1 h2
    cases i with
    | zero => simp only [List.getElem?_cons_zero, Option.some.injEq] at h1 h2; subst h1 h2; exact ⟨by rw [hr], rfl, of_eq_true (clean_ws _)⟩
    | succ i => simp at h1
  · simp [exA, exC, exB, nameOf, pinA, wsA, ws]
  · intro a ha
    simp only [List.mem_cons, List.not_mem_nil, or_false] at ha
    subst ha
    simp [pasA, pasC, pasB, nameOf, pinA]
  simp only [go_sem, ↓reduceIte, Nat.reduceEqDiff, Nat.reduceAdd, Nat.reduceLT, Nat.reduceLeDiff, Int.reduceToNat, Nat.reducePow, Nat.reduceMul, reduceCtorEq, ac_linkworkref01_cut, hr]
  refine wpA_loop (fun n : Nat => ⟨mkV [(0, .one (.own 1048576 ver 1 0 n))], mkH [(1048576, ⟨ver, some ⟨(l ++ post).map wc, 1, true⟩⟩)]⟩)
    (fun n => n ≤ l.length ∧ val (l.take n) = val l) id l.length ?_ ?_ ?_
  · exact weak_lit (by simp [okS, okV, okC, okL, okH, okB, okE, mkV_cons, mkV_nil, mkH_cons, mkH_nil, wsA, ws]) (okH_1 (by simp))
  · simp
  · rintro n ⟨hn, ht⟩
    simp only [go_sem, ↓reduceIte, Nat.reduceEqDiff, Nat.reduceAdd, Nat.reduceLT, Nat.reduceLeDiff, Int.reduceToNat, Nat.reducePow, Nat.reduceMul, reduceCtorEq, hr]
    rw [show ((n : Int) - 1).toNat = n - 1 by omega]
    refine fun _ => ⟨fun h => fun _ => ⟨by omega, by omega, by simp; omega, ?_, ?_⟩, fun h => ?_⟩
    · rw [get_app (by omega)]
      refine fun h0 _ => ⟨by omega, by omega, by omega, n - 1, weak_lit (by simp [okS, okV, okC, okL, okH, okB, okE, mkV_cons, mkV_nil, mkH_cons, mkH_nil, wsA, ws]) (okH_1 rfl), ⟨by omega, ?_⟩, by simp only [id]; omega⟩
      have := take_succ l (n - 1)
      rw [show n - 1 + 1 = n by omega, h0, Nat.mul_zero, Nat.add_zero] at this
      rw [← this]; exact ht
    · rw [get_app (by omega)]
      intro h0
      have := digs_val (WL_take hl n) (NZ_take h hn h0)
      rw [ht] at this
      have h2 := hK (l.drop n ++ post)
      rw [this, List.length_take, Nat.min_eq_left hn, ← List.append_assoc, List.take_append_drop] at h2
      exact h2
    · have h1 : n = 0 := by omega
      subst h1
      have : val l = 0 := by rw [← ht]; simp [val]
      have h2 := hK (l ++ post)
      rw [this, digs_zero] at h2
      exact h2

theorem halve_sound (hΓ : Holds P Γ) {f fw fc : Nat} (hw : Γ fw = .dat true word_G) (hc' : Γ fc = .own cut_G) (hc : check P f = some (26, (ac_linkworkref01_halve fw fc).strip, [.tmp 2])) : Sound P f (.own halve_G) := by
  refine sound_own hc hΓ (fun d args h K hG => ?_)
  unfold halve_G at hG
  split at hG
  case h_2 => exact hG.elim
  rename_i r ver len
  obtain ⟨l, post, rfl, hr, hl, hll, hK⟩ := hG
  refine ⟨[r], [⟨(l ++ post).map wc, 1, true⟩], [.one (.own 1048576 ver 1 0 l.length)], by simp, rfl, ?_, ?_, ?_, fun hfi => ⟨by simp, ?_⟩⟩
  · intro i r' b h1 h2
    cases i with
    | zero => simp only [List.getElem?_cons_zero, Option.some.injEq] at h1 h2; subst h1 h2; exact ⟨by rw [hr], rfl, of_eq_true (clean_ws _)⟩
    | succ i => simp at h1
  · simp [exA, exC, exB, nameOf, pinA, wsA, ws]
  · intro a ha
    simp only [List.mem_cons, List.not_mem_nil, or_false] at ha
    subst ha
    simp [pasA, pasC, pasB, nameOf, pinA]
  simp only [go_sem, ↓reduceIte, Nat.reduceEqDiff, Nat.reduceAdd, Nat.reduceLT, Nat.reduceLeDiff, Int.reduceToNat, Nat.reducePow, Nat.reduceMul, reduceCtorEq, ac_linkworkref01_halve, hr]
  intro h1
  refine wpA_loop (fun o : List Nat => ⟨mkV [(0, .one (.own 1048576 ver 1 0 l.length)), (5, .one (.lit (.int .i64 l.length))), (6, .one (.lit (.int .i64 o.length)))], mkH [(1048576, ⟨ver, some ⟨(o ++ (l.drop o.length ++ post)).map wc, 1, true⟩⟩)]⟩)
    (fun o => o.length ≤ l.length ∧ WL o ∧ val o = val l / 2 % 4294967296 ^ o.length) (fun o => l.length - o.length) [] ?_ ?_ ?_
  · exact weak_lit (by simp [okS, okV, okC, okL, okH, okB, okE, mkV_cons, mkV_nil, mkH_cons, mkH_nil, wsA, ws]) (okH_1 (by simp))
  · simp [WL_nil, val]; omega
  · rintro o ⟨hoN, ho, hval⟩
    have hw2 := WL_od ho hl
    simp only [go_sem, ↓reduceIte, Nat.reduceEqDiff, Nat.reduceAdd, Nat.reduceLT, Nat.reduceLeDiff, Int.reduceToNat, Nat.reducePow, Nat.reduceMul, reduceCtorEq, hr, hw, hc', len_od hoN, take_od hoN, Nat.le_add_right, get_od, get_od0]
    refine ⟨fun hlt => ⟨hw2, by decide, by omega, hw2, by decide, ⟨rfl, by have := WL_getD hl o.length; omega, by omega⟩, hlt, by omega, by omega, ?_⟩, fun hge => ?_⟩
    · have hd := halve_or (WL_getD hl o.length) (WL_getD hl (o.length + 1))
      rw [down_step hl (by omega), Nat.pow_one] at hd
      rw [hd, set_od _ hlt]
      generalize hv : val l / 2 / 4294967296 ^ o.length % 4294967296 = v
      have hvB : v < 4294967296 := by rw [← hv]; exact Nat.mod_lt _ (by omega)
      refine ⟨o ++ [v], weak_lit (by simp [okS, okV, okC, okL, okH, okB, okE, mkV_cons, mkV_nil, mkH_cons, mkH_nil, wsA, ws]) (okH_1 rfl), ⟨by simp; omega, WL_append.2 ⟨ho, WL_cons.2 ⟨hvB, WL_nil⟩⟩, ?_⟩, by simp; omega⟩
      rw [val_append, List.length_append, List.length_singleton, mod_pow_succ, hv, ← hval]; simp [val]
    · have e : o.length = l.length := by omega
      have hlt : val l / 2 < 4294967296 ^ l.length := Nat.lt_of_le_of_lt (Nat.div_le_self _ _) (val_lt hl)
      rw [e, Nat.mod_eq_of_lt hlt] at hval
      rw [List.drop_of_length_le (by omega), List.nil_append, ← e]
      refine ⟨o, post, rfl, by simp [mkH_cons], ho, by omega, fun post' => ?_⟩
      simp only [go_sem, ↓reduceIte, Nat.reduceEqDiff, Nat.reduceAdd, Nat.reduceLT, Nat.reduceLeDiff, Int.reduceToNat, Nat.reducePow, Nat.reduceMul, reduceCtorEq]
      rw [hval]
      exact hK post'

theorem take_sound (hΓ : Holds P Γ) {f fw : Nat} (hw : Γ fw = .dat true word_G) (hc : check P f = some (31, (ac_linkworkref01_take fw).strip, [])) : Sound P f (.own take_G) := by
  refine sound_own hc hΓ (fun d args h K hG => ?_)
  unfold take_G at hG
  split at hG
  case h_3 => exact hG.elim
  case h_2 =>
    rename_i r ver len b _
    obtain ⟨y, rfl, hy, l, post, rfl, hr, hl, hll, hle, hK⟩ := hG
    refine ⟨[r], [⟨(l ++ post).map wc, 1, true⟩], [.one (.own 1048576 ver 1 0 l.length), wsA y], by simp, rfl, ?_, ?_, ?_, fun hfi => ⟨by simp, ?_⟩⟩
    · intro i r' b h1 h2
      cases i with
      | zero => simp only [List.getElem?_cons_zero, Option.some.injEq] at h1 h2; subst h1 h2; exact ⟨by rw [hr], rfl, of_eq_true (clean_ws _)⟩
      | succ i => simp at h1
    · simp [exA, exC, exB, nameOf, pinA, wsA, ws]
    · intro a ha
      simp only [List.mem_cons, List.not_mem_nil, or_false] at ha
      rcases ha with rfl | rfl
      · simp [pasA, pasC, pasB, nameOf, pinA]
      · exact .slice _ (of_eq_true (clean_ws _))
    simp only [go_sem, ↓reduceIte, Nat.reduceEqDiff, Nat.reduceAdd, Nat.reduceLT, Nat.reduceLeDiff, Int.reduceToNat, Nat.reducePow, Nat.reduceMul, reduceCtorEq, ac_linkworkref01_take, hr]
    intro h1
    refine wpA_loop (fun p : List Nat × Nat => ⟨mkV [(0, .one (.own 1048576 ver 1 0 l.length)), (1, wsA y), (4, .one (.lit (.int .u64 p.2))), (8, .one (.lit (.int .i64 l.length))), (9, .one (.lit (.int .i64 p.1.length)))],
        mkH [(1048576, ⟨ver, some ⟨(p.1 ++ (l.drop p.1.length ++ post)).map wc, 1, true⟩⟩)]⟩)
      (fun p => p.1.length ≤ l.length ∧ WL p.1 ∧ p.2 ≤ 1 ∧ val p.1 + val (y.take p.1.length) = val (l.take p.1.length) + 4294967296 ^ p.1.length * p.2) (fun p => l.length - p.1.length) ([], 0) ?_ ?_ ?_
    · exact weak_lit (by simp [okS, okV, okC, okL, okH, okB, okE, mkV_cons, mkV_nil, mkH_cons, mkH_nil, wsA, ws]) (okH_1 (by simp))
    · simp [WL_nil, val]
    · rintro ⟨o, c⟩ ⟨hoN, ho, hc1, hval⟩
      simp only at hoN ho hc1 hval
      have hw2 := WL_od ho hl
      simp only [go_sem, ↓reduceIte, Nat.reduceEqDiff, Nat.reduceAdd, Nat.reduceLT, Nat.reduceLeDiff, Int.reduceToNat, Nat.reducePow, Nat.reduceMul, reduceCtorEq, hr, hw, len_od hoN, take_od hoN, Nat.le_add_right, get_od, get_od0]
      refine ⟨fun hlt => ?_, fun hge => ?_⟩
      · obtain ⟨s, e1, e2, e3, e4⟩ := minus_e (WL_getD hl o.length) (WL_getD hy o.length) hc1
        simp only [e1, e2, set_wc', set_od _ hlt]
        refine ⟨hw2, hy, ⟨by omega, by decide, by decide⟩, hlt, by omega, by omega, (o ++ [s % 4294967296], 1 - s / 4294967296), weak_lit (by simp [okS, okV, okC, okL, okH, okB, okE, mkV_cons, mkV_nil, mkH_cons, mkH_nil, wsA, ws, e2]) (by first | exact okH_1' rfl | exact ⟨okB_wc' rfl, okB_wc rfl, trivial⟩), ⟨by simp; omega, WL_append.2 ⟨ho, WL_cons.2 ⟨Nat.mod_lt _ (by omega), WL_nil⟩⟩, e4, ?_⟩, by simp; omega⟩
        simp only [List.length_append, List.length_cons, List.length_nil, Nat.zero_add, take_succ, val_append, val_cons, val_nil, Nat.mul_zero, Nat.add_zero, Nat.pow_succ]
        exact less_aux hval e3
      · have e : o.length = l.length := by omega
        have hv := less_end ho hl e hle hval
        have hd := dig_val ho
        rw [hv, e] at hd
        rw [hd] at hK
        rw [List.drop_of_length_le (by omega), List.nil_append]
        exact hK
  case h_1 =>
    rename_i r ver len r2 ver2 len2
    obtain ⟨l, post, y, posty, hne, rfl, hr, hl, hll, rfl, hr2, hy, hle, hK⟩ := hG
    refine ⟨[r, r2], [⟨(l ++ post).map wc, 1, true⟩, ⟨(y ++ posty).map wc, 1, true⟩], [.one (.own 1048576 ver 1 0 l.length), .one (.own 1048577 ver2 1 0 y.length)], by simp [hne], rfl, ?_, ?_, ?_, fun hfi => ⟨by simp, ?_⟩⟩
    · intro i r' b h1 h2
      cases i with
      | zero => simp only [List.getElem?_cons_zero, Option.some.injEq] at h1 h2; subst h1 h2; exact ⟨by rw [hr], rfl, of_eq_true (clean_ws _)⟩
      | succ i =>
        cases i with
        | zero => simp only [List.getElem?_cons_zero, List.getElem?_cons_succ, Option.some.injEq] at h1 h2; subst h1 h2; exact ⟨by rw [hr2], rfl, of_eq_true (clean_ws _)⟩
        | succ i => simp at h1
    · simp [exA, exC, exB, nameOf, pinA, wsA, ws]
    · intro a ha
      simp only [List.mem_cons, List.not_mem_nil, or_false] at ha
      rcases ha with rfl | rfl
      · simp [pasA, pasC, pasB, nameOf, pinA]
      · simp [pasA, pasC, pasB, nameOf, pinA]
    simp only [go_sem, ↓reduceIte, Nat.reduceEqDiff, Nat.reduceAdd, Nat.reduceLT, Nat.reduceLeDiff, Int.reduceToNat, Nat.reducePow, Nat.reduceMul, reduceCtorEq, ac_linkworkref01_take, hr, hr2]
    intro h1
    refine wpA_loop (fun p : List Nat × Nat => ⟨mkV [(0, .one (.own 1048576 ver 1 0 l.length)), (1, .one (.own 1048577 ver2 1 0 y.length)), (4, .one (.lit (.int .u64 p.2))), (8, .one (.lit (.int .i64 l.length))), (9, .one (.lit (.int .i64 p.1.length)))],
        mkH [(1048576, ⟨ver, some ⟨(p.1 ++ (l.drop p.1.length ++ post)).map wc, 1, true⟩⟩), (1048577, ⟨ver2, some ⟨(y ++ posty).map wc, 1, true⟩⟩)]⟩)
      (fun p => p.1.length ≤ l.length ∧ WL p.1 ∧ p.2 ≤ 1 ∧ val p.1 + val (y.take p.1.length) = val (l.take p.1.length) + 4294967296 ^ p.1.length * p.2) (fun p => l.length - p.1.length) ([], 0) ?_ ?_ ?_
    · exact weak_lit (by simp [okS, okV, okC, okL, okH, okB, okE, mkV_cons, mkV_nil, mkH_cons, mkH_nil, wsA, ws]) ⟨okB_wc (by simp), okB_wc rfl, trivial⟩
    · simp [WL_nil, val]
    · rintro ⟨o, c⟩ ⟨hoN, ho, hc1, hval⟩
      simp only at hoN ho hc1 hval
      have hw2 := WL_od ho hl
      simp only [go_sem, ↓reduceIte, Nat.reduceEqDiff, Nat.reduceAdd, Nat.reduceLT, Nat.reduceLeDiff, Int.reduceToNat, Nat.reducePow, Nat.reduceMul, reduceCtorEq, hr, hr2, hw, len_od hoN, take_od hoN, Nat.le_add_right, get_od, get_od0, List.length_append, List.take_left]
      refine ⟨fun hlt => ?_, fun hge => ?_⟩
      · obtain ⟨s, e1, e2, e3, e4⟩ := minus_e (WL_getD hl o.length) (WL_getD hy o.length) hc1
        simp only [e1, e2, set_wc', set_od _ hlt]
        refine ⟨hw2, hy, ⟨by omega, by decide, by decide⟩, hlt, by omega, by omega, (o ++ [s % 4294967296], 1 - s / 4294967296), weak_lit (by simp [okS, okV, okC, okL, okH, okB, okE, mkV_cons, mkV_nil, mkH_cons, mkH_nil, wsA, ws, e2]) (by first | exact okH_1' rfl | exact ⟨okB_wc' rfl, okB_wc rfl, trivial⟩), ⟨by simp; omega, WL_append.2 ⟨ho, WL_cons.2 ⟨Nat.mod_lt _ (by omega), WL_nil⟩⟩, e4, ?_⟩, by simp; omega⟩
        simp only [List.length_append, List.length_cons, List.length_nil, Nat.zero_add, take_succ, val_append, val_cons, val_nil, Nat.mul_zero, Nat.add_zero, Nat.pow_succ]
        exact less_aux hval e3
      · have e : o.length = l.length := by omega
        have hv := less_end ho hl e hle hval
        have hd := dig_val ho
        rw [hv, e] at hd
        rw [hd] at hK
        rw [List.drop_of_length_le (by omega), List.nil_append]
        exact hK

end Go.Abs
end

/-
  The second integers: gcd by halving.
-/
section
set_option linter.unusedVariables false
set_option linter.unusedSimpArgs false
set_option maxRecDepth 100000
namespace Go.Abs
open Go.Num

variable {P : Program} {Γ : Nat → Spec}

/-- linkwork/linkworkref01.gcd (72) [.tmp 4] -/
def ac_linkworkref01_gcd (f_linkworkref01_trim f_linkworkref01_halve f_linkworkref01_compare f_linkworkref01_take f_linkworkref01_cut f_linkworkref01_plus : Nat) : AC := (.seq (.ops false [⟨some 4, none, .mv (.c (.one .emp))⟩])
 (.fg [0, 1] (.seq (.ops false [⟨some 6, none, .mv (.t 0)⟩, ⟨some 7, none, .callf f_linkworkref01_trim [(.t 6)]⟩, ⟨some 8, none, .mv (.t 1)⟩, ⟨some 9, none, .callf f_linkworkref01_trim [(.t 8)]⟩, ⟨some 0, none, .mv (.t 7)⟩, ⟨some 1, none, .mv (.t 9)⟩])
 (.fg [0, 1] (.seq (.seq (.ops false [⟨some 10, none, .mv (.t 0)⟩, ⟨some 11, none, .len (.t 10)⟩, ⟨some 12, none, .bin .eql (.t 11) (.c (.one (.lit (.int .i64 0))))⟩])
 (.fg [0, 1, 12] (.cond (.t 12) (.seq (.ops false [⟨some 13, none, .mv (.t 1)⟩, ⟨some 4, none, .mv (.t 13)⟩])
 .ret) .skip)))
 (.fg [0, 1] (.seq (.seq (.ops false [⟨some 14, none, .mv (.t 1)⟩, ⟨some 15, none, .len (.t 14)⟩, ⟨some 16, none, .bin .eql (.t 15) (.c (.one (.lit (.int .i64 0))))⟩])
 (.fg [0, 1, 16] (.cond (.t 16) (.seq (.ops false [⟨some 17, none, .mv (.t 0)⟩, ⟨some 4, none, .mv (.t 17)⟩])
 .ret) .skip)))
 (.fg [0, 1] (.seq (.ops false [⟨some 5, none, .mv (.c (.one (.lit (.int .i64 0))))⟩])
 (.fg [0, 1, 5] (.seq (.block 0 (.loop (.seq (.seq (.ops false [⟨some 18, none, .mv (.t 0)⟩, ⟨some 19, none, .idx 1 (.t 18) (.c (.one (.lit (.int .i64 0))))⟩, ⟨some 20, none, .ld none 1 false (.t 19)⟩, ⟨some 21, none, .bin .and (.t 20) (.c (.one (.lit (.int .u32 1))))⟩, ⟨some 22, none, .bin .eql (.t 21) (.c (.one (.lit (.int .u32 0))))⟩, ⟨some 23, none, .mv (.t 22)⟩, ⟨some 24, some (23, true), .mv (.t 1)⟩, ⟨some 25, some (23, true), .idx 1 (.t 24) (.c (.one (.lit (.int .i64 0))))⟩, ⟨some 26, some (23, true), .ld none 1 false (.t 25)⟩, ⟨some 27, some (23, true), .bin .and (.t 26) (.c (.one (.lit (.int .u32 1))))⟩, ⟨some 28, some (23, true), .bin .eql (.t 27) (.c (.one (.lit (.int .u32 0))))⟩, ⟨some 29, none, .pick (.t 23) (.t 28) (.c (.one (.lit (.bool false))))⟩])
 (.fg [0, 1, 5, 29] (.cond (.t 29) .skip (.exit 0))))
 (.fg [0, 1, 5] (.block 1 (.seq (.ops false [⟨some 30, none, .mv (.t 0)⟩, ⟨some 31, none, .call f_linkworkref01_halve [(.t 30)]⟩, ⟨some 32, none, .mv (.t 1)⟩, ⟨some 33, none, .call f_linkworkref01_halve [(.t 32)]⟩, ⟨some 0, none, .mv (.t 31)⟩, ⟨some 1, none, .mv (.t 33)⟩])
 (.fg [0, 1, 5] (.ops false [⟨some 34, none, .mv (.t 5)⟩, ⟨some 35, none, .bin .add (.t 34) (.c (.one (.lit (.int .i64 1))))⟩, ⟨some 5, none, .mv (.t 35)⟩]))))))))
 (.fg [0, 1, 5] (.seq (.block 2 (.loop (.seq (.seq (.ops false [⟨some 36, none, .mv (.t 0)⟩, ⟨some 37, none, .len (.t 36)⟩, ⟨some 38, none, .bin .gtr (.t 37) (.c (.one (.lit (.int .i64 0))))⟩])
 (.fg [0, 1, 5, 38] (.cond (.t 38) .skip (.exit 2))))
 (.fg [0, 1, 5] (.block 3 (.seq (.block 4 (.loop (.seq (.seq (.ops false [⟨some 39, none, .mv (.t 0)⟩, ⟨some 40, none, .idx 1 (.t 39) (.c (.one (.lit (.int .i64 0))))⟩, ⟨some 41, none, .ld none 1 false (.t 40)⟩, ⟨some 42, none, .bin .and (.t 41) (.c (.one (.lit (.int .u32 1))))⟩, ⟨some 43, none, .bin .eql (.t 42) (.c (.one (.lit (.int .u32 0))))⟩])
 (.fg [0, 1, 5, 43] (.cond (.t 43) .skip (.exit 4))))
 (.fg [0, 1, 5] (.block 5 (.ops false [⟨some 44, none, .mv (.t 0)⟩, ⟨some 45, none, .call f_linkworkref01_halve [(.t 44)]⟩, ⟨some 0, none, .mv (.t 45)⟩]))))))
 (.fg [0, 1, 5] (.seq (.block 6 (.loop (.seq (.seq (.ops false [⟨some 46, none, .mv (.t 1)⟩, ⟨some 47, none, .idx 1 (.t 46) (.c (.one (.lit (.int .i64 0))))⟩, ⟨some 48, none, .ld none 1 false (.t 47)⟩, ⟨some 49, none, .bin .and (.t 48) (.c (.one (.lit (.int .u32 1))))⟩, ⟨some 50, none, .bin .eql (.t 49) (.c (.one (.lit (.int .u32 0))))⟩])
 (.fg [0, 1, 5, 50] (.cond (.t 50) .skip (.exit 6))))
 (.fg [0, 1, 5] (.block 7 (.ops false [⟨some 51, none, .mv (.t 1)⟩, ⟨some 52, none, .call f_linkworkref01_halve [(.t 51)]⟩, ⟨some 1, none, .mv (.t 52)⟩]))))))
 (.fg [0, 1, 5] (.seq (.seq (.ops false [⟨some 53, none, .mv (.t 0)⟩, ⟨some 54, none, .mv (.t 1)⟩, ⟨some 55, none, .call f_linkworkref01_compare [(.t 53), (.t 54)]⟩, ⟨some 56, none, .bin .lss (.t 55) (.c (.one (.lit (.int .i64 0))))⟩])
 (.fg [0, 1, 5, 56] (.cond (.t 56) (.ops false [⟨some 57, none, .mv (.t 1)⟩, ⟨some 58, none, .mv (.t 0)⟩, ⟨some 0, none, .mv (.t 57)⟩, ⟨some 1, none, .mv (.t 58)⟩]) .skip)))
 (.fg [0, 1, 5] (.seq (.ops false [⟨some 59, none, .mv (.t 0)⟩, ⟨some 60, none, .mv (.t 1)⟩, ⟨some 61, none, .call f_linkworkref01_take [(.t 59), (.t 60)]⟩])
 (.fg [0, 1, 5] (.ops false [⟨some 62, none, .mv (.t 0)⟩, ⟨some 63, none, .call f_linkworkref01_cut [(.t 62)]⟩, ⟨some 0, none, .mv (.t 63)⟩]))))))))))))))
 (.fg [1, 5] (.seq (.seq (.ops false [⟨some 64, none, .mv (.t 5)⟩, ⟨some 65, none, .mv (.c (.one (.lit (.int .i64 0))))⟩])
 (.fg [1, 64, 65] (.fz [1] (.block 8 (.loop (.seq (.ops false [⟨some 66, none, .bin .lss (.t 65) (.t 64)⟩])
 (.fg [1, 64, 65, 66] (.seq (.cond (.t 66) .skip (.exit 8))
 (.fg [1, 64, 65] (.seq (.block 9 (.ops false [⟨some 67, none, .mv (.t 1)⟩, ⟨some 68, none, .mv (.t 1)⟩, ⟨some 69, none, .call f_linkworkref01_plus [(.t 67), (.t 68)]⟩, ⟨some 1, none, .mv (.t 69)⟩]))
 (.fg [1, 64, 65] (.ops false [⟨some 70, none, .bin .add (.t 65) (.c (.one (.lit (.int .i64 1))))⟩, ⟨some 65, none, .mv (.t 70)⟩]))))))))))))
 (.fg [1] (.seq (.ops false [⟨some 71, none, .mv (.t 1)⟩, ⟨some 4, none, .mv (.t 71)⟩])
 .ret)))))))))))))))))


theorem gcd01_sound (hΓ : Holds P Γ) {f ft fh fc fk fu fp : Nat} (ht : Γ ft = .fresh 1 tr01_G) (hh : Γ fh = .own halve_G) (hcm : Γ fc = .dat true cmp01_G) (hk : Γ fk = .own take_G) (hu : Γ fu = .own cut_G) (hp : Γ fp = .dat false plus_G)
    (hc : check P f = some (72, (ac_linkworkref01_gcd ft fh fc fk fu fp).strip, [.tmp 4])) : Sound P f (.dat false gcd01_G) := by
  refine sound_dat hc gcd01_good hΓ (fun args K hcl hfi hG => ?_)
  match args, hG with
  | [a, b], hG =>
    obtain ⟨x, rfl, hx, y, rfl, hy, hxl, hyl, hK⟩ := hG
    refine ⟨by simp, ?_⟩
    simp only [go_sem, ↓reduceIte, Nat.reduceEqDiff, Nat.reduceAdd, Nat.reduceLT, Nat.reduceLeDiff, Int.reduceToNat, Nat.reducePow, Nat.reduceMul, reduceCtorEq, ac_linkworkref01_gcd, ht, hh, hcm, hk, hu, hp]
    have hxv := digs_len_le (val_lt hx)
    have hyv := digs_len_le (val_lt hy)
    refine ⟨hx, by omega, hy, by omega, fun _ => ⟨fun h0 => ?_, fun h0 _ => ⟨fun h1 => ?_, fun h1 => ?_⟩⟩⟩
    · rw [digs_len0.1 h0, Nat.gcd_zero_left] at hK; exact hK
    · rw [digs_len0.1 h1, Nat.gcd_zero_right] at hK; exact hK
    rw [digs_len0] at h0 h1
    refine wpA_loop (fun p : (Nat × List Nat) × (Nat × List Nat) × Nat => ⟨mkV [(0, .one (.own 7 1 1 0 (digs p.1.1).length)), (1, .one (.own 9 1 1 0 (digs p.2.1.1).length)), (5, .one (.lit (.int .i64 p.2.2)))], mkH [(7, ⟨1, some ⟨(digs p.1.1 ++ p.1.2).map wc, 1, true⟩⟩), (9, ⟨1, some ⟨(digs p.2.1.1 ++ p.2.1.2).map wc, 1, true⟩⟩)]⟩)
      (fun p => p.1.1 ≠ 0 ∧ p.2.1.1 ≠ 0 ∧ p.1.1 ≤ val x ∧ p.2.1.1 ≤ val y ∧ p.1.1 * 2 ^ p.2.2 ≤ val x ∧ Nat.gcd p.1.1 p.2.1.1 * 2 ^ p.2.2 = Nat.gcd (val x) (val y)) (fun p => p.1.1) ((val x, []), (val y, []), 0) ?_ ?_ ?_
    · exact weak_lit (by simp [okS, okV, okC, okL, okH, okB, okE, mkV_cons, mkV_nil, mkH_cons, mkH_nil, wsA, ws]) ⟨okB_wc (by simp), okB_wc (by simp), trivial⟩
    · exact ⟨h0, h1, Nat.le_refl _, Nat.le_refl _, by simp, by simp⟩
    · rintro ⟨⟨a, pa⟩, ⟨b, pb⟩, k⟩ ⟨ha, hb, hax, hby, hak, hg⟩
      simp only at ha hb hax hby hak hg
      have hkb : k < 32 * x.length := pow_lim (n := val x) (Nat.le_trans (Nat.le_mul_of_pos_left _ (by omega)) hak) (val_lt hx)
      have hal := Nat.le_trans (digs_len_mono hax) hxv
      have hbl := Nat.le_trans (digs_len_mono hby) hyv
      have hap := digs_pos_len ha
      have hbp := digs_pos_len hb
      simp only [go_sem, ↓reduceIte, Nat.reduceEqDiff, Nat.reduceAdd, Nat.reduceLT, Nat.reduceLeDiff, Int.reduceToNat, Nat.reducePow, Nat.reduceMul, reduceCtorEq, hh, hcm, hk, hu, hp, and32_1, digs_head ha, digs_head hb, hap, hbp, List.length_append]
      refine share4 (by omega) (by omega) (Nat.mod_lt _ (by omega)) (by omega) (by omega) (Nat.mod_lt _ (by omega)) (fun hae hbe => ?_) (fun hodd => ?_)
      · simp only [halve_G]
        refine ⟨digs a, pa, rfl, by simp [mkH_cons], digs_WL _, by omega, fun pa' => ?_⟩
        refine ⟨digs b, pb, rfl, by simp [upd, mkH_cons], digs_WL _, by omega, fun pb' => ?_⟩
        simp only [go_sem, ↓reduceIte, Nat.reduceEqDiff, Nat.reduceAdd, Nat.reduceLT, Nat.reduceLeDiff, Int.reduceToNat, Nat.reducePow, Nat.reduceMul, reduceCtorEq, val_digs]
        refine ⟨by omega, ((a / 2, pa'), (b / 2, pb'), k + 1), weak_lit (by simp [okS, okV, okC, okL, okH, okB, okE, mkV_cons, mkV_nil, mkH_cons, mkH_nil, wsA, ws]) ⟨okB_wc rfl, okB_wc rfl, trivial⟩, ⟨by simp only; omega, by simp only; omega, by simp only; omega, by simp only; omega, ?_, gcd_ee (by omega) (by omega) hg⟩, by simp only; omega⟩
        simp only
        refine Nat.le_trans ?_ hak
        rw [Nat.pow_succ, Nat.mul_comm (2 ^ k) 2, ← Nat.mul_assoc]
        exact Nat.mul_le_mul_right _ (by omega)
      · refine wpA_loop (fun p : Bool × (Nat × List Nat) × (Nat × List Nat) => match p.1 with
            | false => ⟨mkV [(0, .one (.own 7 1 1 0 (digs p.2.1.1).length)), (1, .one (.own 9 1 1 0 (digs p.2.2.1).length)), (5, .one (.lit (.int .i64 k)))], mkH [(7, ⟨1, some ⟨(digs p.2.1.1 ++ p.2.1.2).map wc, 1, true⟩⟩), (9, ⟨1, some ⟨(digs p.2.2.1 ++ p.2.2.2).map wc, 1, true⟩⟩)]⟩
            | true => ⟨mkV [(0, .one (.own 9 1 1 0 (digs p.2.1.1).length)), (1, .one (.own 7 1 1 0 (digs p.2.2.1).length)), (5, .one (.lit (.int .i64 k)))], mkH [(9, ⟨1, some ⟨(digs p.2.1.1 ++ p.2.1.2).map wc, 1, true⟩⟩), (7, ⟨1, some ⟨(digs p.2.2.1 ++ p.2.2.2).map wc, 1, true⟩⟩)]⟩)
          (fun p => p.2.2.1 ≠ 0 ∧ (p.2.1.1 % 2 ≠ 0 ∨ p.2.2.1 % 2 ≠ 0) ∧ (digs p.2.1.1).length ≤ 17179869184 ∧ (digs p.2.2.1).length ≤ 17179869184 ∧ Nat.gcd p.2.1.1 p.2.2.1 * 2 ^ k = Nat.gcd (val x) (val y)) (fun p => p.2.1.1 + p.2.2.1) (false, (a, pa), (b, pb)) ?_ ?_ ?_
        · exact weak_lit (by simp [okS, okV, okC, okL, okH, okB, okE, mkV_cons, mkV_nil, mkH_cons, mkH_nil, wsA, ws]) ⟨okB_wc rfl, okB_wc rfl, trivial⟩
        · exact ⟨hb, by simp only; omega, by simp only; omega, by simp only; omega, hg⟩
        clear hax hby hak hal hbl hap hbp hg ha hb hodd
        rintro ⟨sw, ⟨a, pa⟩, ⟨b, pb⟩⟩ ⟨hb, hodd, hal, hbl, hg⟩
        simp only at hb hodd hal hbl hg
        cases sw with
        | false =>
          simp only [go_sem, ↓reduceIte, Nat.reduceEqDiff, Nat.reduceAdd, Nat.reduceLT, Nat.reduceLeDiff, Int.reduceToNat, Nat.reducePow, Nat.reduceMul, reduceCtorEq, hh, hcm, hk, hu, hp, and32_1, val_digs, List.length_append, Nat.le_add_right, List.take_left]
          refine fun _ => ⟨fun hap => ?_, fun hap => ?_⟩
          · have ha : a ≠ 0 := fun e => by rw [e, digs_zero] at hap; simp at hap
            refine wpA_loop (fun p : Nat × List Nat => ⟨mkV [(0, .one (.own 7 1 1 0 (digs p.1).length)), (1, .one (.own 9 1 1 0 (digs b).length)), (5, .one (.lit (.int .i64 k)))], mkH [(7, ⟨1, some ⟨(digs p.1 ++ p.2).map wc, 1, true⟩⟩), (9, ⟨1, some ⟨(digs b ++ pb).map wc, 1, true⟩⟩)]⟩)
              (fun p => p.1 ≠ 0 ∧ p.1 ≤ a ∧ (p.1 % 2 ≠ 0 ∨ b % 2 ≠ 0) ∧ Nat.gcd p.1 b * 2 ^ k = Nat.gcd (val x) (val y)) (fun p => p.1) (a, pa) ?_ ?_ ?_
            · exact weak_lit (by simp [okS, okV, okC, okL, okH, okB, okE, mkV_cons, mkV_nil, mkH_cons, mkH_nil, wsA, ws]) ⟨okB_wc rfl, okB_wc rfl, trivial⟩
            · exact ⟨ha, Nat.le_refl _, hodd, hg⟩
            · rintro ⟨a', pa⟩ ⟨ha', haa, hodd, hg⟩
              simp only at ha' haa hodd hg
              have hap := digs_pos_len ha'
              simp only [go_sem, ↓reduceIte, Nat.reduceEqDiff, Nat.reduceAdd, Nat.reduceLT, Nat.reduceLeDiff, Int.reduceToNat, Nat.reducePow, Nat.reduceMul, reduceCtorEq, hh, hcm, hk, hu, hp, and32_1, val_digs, List.length_append, Nat.le_add_right, List.take_left, digs_head ha', hap]
              refine ⟨by omega, by omega, Nat.mod_lt _ (by omega), fun he => ?_, fun hao => ?_⟩
              · simp only [halve_G]
                refine ⟨digs a', pa, rfl, by simp [mkH_cons], digs_WL _, by have := digs_len_mono haa; omega, fun pa' => ?_⟩
                simp only [go_sem, ↓reduceIte, Nat.reduceEqDiff, Nat.reduceAdd, Nat.reduceLT, Nat.reduceLeDiff, Int.reduceToNat, Nat.reducePow, Nat.reduceMul, reduceCtorEq, hh, hcm, hk, hu, hp, and32_1, val_digs, List.length_append, Nat.le_add_right, List.take_left]
                refine ⟨(a' / 2, pa'), weak_lit (by simp [okS, okV, okC, okL, okH, okB, okE, mkV_cons, mkV_nil, mkH_cons, mkH_nil, wsA, ws]) ⟨okB_wc rfl, okB_wc rfl, trivial⟩, ⟨by simp only; omega, by simp only; omega, .inr (by omega), ?_⟩, by simp only; omega⟩
                rw [← hg]; simp only; rw [gcd_eo (by omega) (by omega)]
              · refine wpA_loop (fun p : Nat × List Nat => ⟨mkV [(0, .one (.own 7 1 1 0 (digs a').length)), (1, .one (.own 9 1 1 0 (digs p.1).length)), (5, .one (.lit (.int .i64 k)))], mkH [(7, ⟨1, some ⟨(digs a' ++ pa).map wc, 1, true⟩⟩), (9, ⟨1, some ⟨(digs p.1 ++ p.2).map wc, 1, true⟩⟩)]⟩)
                  (fun p => p.1 ≠ 0 ∧ p.1 ≤ b ∧ Nat.gcd a' p.1 * 2 ^ k = Nat.gcd (val x) (val y)) (fun p => p.1) (b, pb) ?_ ?_ ?_
                · exact weak_lit (by simp [okS, okV, okC, okL, okH, okB, okE, mkV_cons, mkV_nil, mkH_cons, mkH_nil, wsA, ws]) ⟨okB_wc rfl, okB_wc rfl, trivial⟩
                · exact ⟨hb, Nat.le_refl _, hg⟩
                · rintro ⟨b', pb⟩ ⟨hb', hbb, hg⟩
                  simp only at hb' hbb hg
                  have hbp := digs_pos_len hb'
                  simp only [go_sem, ↓reduceIte, Nat.reduceEqDiff, Nat.reduceAdd, Nat.reduceLT, Nat.reduceLeDiff, Int.reduceToNat, Nat.reducePow, Nat.reduceMul, reduceCtorEq, hh, hcm, hk, hu, hp, and32_1, val_digs, List.length_append, Nat.le_add_right, List.take_left, digs_head hb', hbp]
                  refine ⟨by omega, by omega, Nat.mod_lt _ (by omega), fun he => ?_, fun hbo => ?_⟩
                  · simp only [halve_G]
                    refine ⟨digs b', pb, rfl, by simp [mkH_cons], digs_WL _, by have := digs_len_mono hbb; omega, fun pb' => ?_⟩
                    simp only [go_sem, ↓reduceIte, Nat.reduceEqDiff, Nat.reduceAdd, Nat.reduceLT, Nat.reduceLeDiff, Int.reduceToNat, Nat.reducePow, Nat.reduceMul, reduceCtorEq, hh, hcm, hk, hu, hp, and32_1, val_digs, List.length_append, Nat.le_add_right, List.take_left]
                    refine ⟨(b' / 2, pb'), weak_lit (by simp [okS, okV, okC, okL, okH, okB, okE, mkV_cons, mkV_nil, mkH_cons, mkH_nil, wsA, ws]) ⟨okB_wc rfl, okB_wc rfl, trivial⟩, ⟨by simp only; omega, by simp only; omega, ?_⟩, by simp only; omega⟩
                    rw [← hg]; simp only; rw [gcd_oe (by omega) (by omega)]
                  · have hlb := digs_len_mono hbb
                    have hla := digs_len_mono haa
                    refine ⟨digs_WL _, digs_WL _, fun hlt => ?_, fun hge => ?_⟩
                    · have hlt := ordN_neg.1 hlt
                      simp only [take_G]
                      have e : val (dig (digs b').length (val (digs b') - val (digs a'))) = b' - a' := by
                        rw [val_dig, val_digs, val_digs, Nat.mod_eq_of_lt]
                        exact Nat.lt_of_le_of_lt (Nat.sub_le _ _) (lt_digs_len b')
                      refine ⟨digs b', pb, digs a', pa, by decide, rfl, by simp [mkH_cons], digs_WL _, by omega, rfl, by simp [mkH_cons], digs_WL _, by rw [val_digs, val_digs]; omega, ?_⟩
                      refine ⟨dig (digs b').length (val (digs b') - val (digs a')), pb, (dig_length _ _).symm, by simp [upd, mkH_cons], dig_WL _ _, by omega, fun post' => ?_⟩
                      simp only [go_sem, ↓reduceIte, Nat.reduceEqDiff, Nat.reduceAdd, Nat.reduceLT, Nat.reduceLeDiff, Int.reduceToNat, Nat.reducePow, Nat.reduceMul, reduceCtorEq, e]
                      have hle := Nat.le_trans (digs_len_mono (Nat.sub_le b' a')) (digs_len_mono hbb)
                      refine ⟨(true, (b' - a', post'), (a', pa)), weak_lit (by simp [okS, okV, okC, okL, okH, okB, okE, mkV_cons, mkV_nil, mkH_cons, mkH_nil, wsA, ws]) ⟨okB_wc rfl, okB_wc rfl, trivial⟩, ⟨ha', .inr (by simp only; omega), by simp only; omega, by simp only; omega, ?_⟩, by simp only; omega⟩
                      simp only
                      rw [gcd_sub (by omega), Nat.gcd_comm]; exact hg
                    · have hge := mt ordN_neg.2 hge
                      simp only [take_G]
                      have e : val (dig (digs a').length (val (digs a') - val (digs b'))) = a' - b' := by
                        rw [val_dig, val_digs, val_digs, Nat.mod_eq_of_lt]
                        exact Nat.lt_of_le_of_lt (Nat.sub_le _ _) (lt_digs_len a')
                      refine ⟨digs a', pa, digs b', pb, by decide, rfl, by simp [mkH_cons], digs_WL _, by omega, rfl, by simp [mkH_cons], digs_WL _, by rw [val_digs, val_digs]; omega, ?_⟩
                      refine ⟨dig (digs a').length (val (digs a') - val (digs b')), pa, (dig_length _ _).symm, by simp [upd, mkH_cons], dig_WL _ _, by omega, fun post' => ?_⟩
                      simp only [go_sem, ↓reduceIte, Nat.reduceEqDiff, Nat.reduceAdd, Nat.reduceLT, Nat.reduceLeDiff, Int.reduceToNat, Nat.reducePow, Nat.reduceMul, reduceCtorEq, e]
                      have hle := Nat.le_trans (digs_len_mono (Nat.sub_le a' b')) (digs_len_mono haa)
                      refine ⟨(false, (a' - b', post'), (b', pb)), weak_lit (by simp [okS, okV, okC, okL, okH, okB, okE, mkV_cons, mkV_nil, mkH_cons, mkH_nil, wsA, ws]) ⟨okB_wc rfl, okB_wc rfl, trivial⟩, ⟨hb', .inr (by simp only; omega), by simp only; omega, by simp only; omega, ?_⟩, by simp only; omega⟩
                      simp only
                      rw [gcd_sub (by omega)]; exact hg
          · have ha : a = 0 := digs_len0.1 (by omega)
            rw [ha, Nat.gcd_zero_left] at hg
            refine wpA_loop (fun j : Nat => ⟨mkV [(1, .one (ws (digs (b * 2 ^ j)))), (64, .one (.lit (.int .i64 k))), (65, .one (.lit (.int .i64 j)))], mkH []⟩) (fun j => j ≤ k) (fun j => k - j) 0 ?_ ?_ ?_
            · exact weak_lit (by simp [okS, okV, okC, okL, okH, okB, okE, mkV_cons, mkV_nil, mkH_cons, mkH_nil, wsA, ws]) trivial
            · exact Nat.zero_le _
            · rintro j hj
              simp only [go_sem, ↓reduceIte, Nat.reduceEqDiff, Nat.reduceAdd, Nat.reduceLT, Nat.reduceLeDiff, Int.reduceToNat, Nat.reducePow, Nat.reduceMul, reduceCtorEq, hh, hcm, hk, hu, hp, and32_1, val_digs, List.length_append, Nat.le_add_right, List.take_left]
              refine ⟨fun hlt => ?_, fun hge => ?_⟩
              · have hj1 : b * 2 ^ (j + 1) ≤ val x := by
                  refine Nat.le_trans (Nat.mul_le_mul_left b (Nat.pow_le_pow_right (by omega) hlt)) ?_
                  rw [hg]; exact Nat.le_of_dvd (by omega) (Nat.gcd_dvd_left _ _)
                have e : b * 2 ^ j + b * 2 ^ j = b * 2 ^ (j + 1) := by rw [Nat.pow_succ, ← Nat.mul_assoc]; omega
                have hl1 := Nat.le_trans (digs_len_mono (show b * 2 ^ j ≤ val x by omega)) hxv
                rw [e]
                refine ⟨digs_WL _, digs_WL _, by omega, by omega, by omega, j + 1, weak_lit (by simp [okS, okV, okC, okL, okH, okB, okE, mkV_cons, mkV_nil, mkH_cons, mkH_nil, wsA, ws]) trivial, by omega, by omega⟩
              · have e : j = k := by omega
                rw [e, hg]; exact hK
        | true =>
          simp only [go_sem, ↓reduceIte, Nat.reduceEqDiff, Nat.reduceAdd, Nat.reduceLT, Nat.reduceLeDiff, Int.reduceToNat, Nat.reducePow, Nat.reduceMul, reduceCtorEq, hh, hcm, hk, hu, hp, and32_1, val_digs, List.length_append, Nat.le_add_right, List.take_left]
          refine fun _ => ⟨fun hap => ?_, fun hap => ?_⟩
          · have ha : a ≠ 0 := fun e => by rw [e, digs_zero] at hap; simp at hap
            refine wpA_loop (fun p : Nat × List Nat => ⟨mkV [(0, .one (.own 9 1 1 0 (digs p.1).length)), (1, .one (.own 7 1 1 0 (digs b).length)), (5, .one (.lit (.int .i64 k)))], mkH [(9, ⟨1, some ⟨(digs p.1 ++ p.2).map wc, 1, true⟩⟩), (7, ⟨1, some ⟨(digs b ++ pb).map wc, 1, true⟩⟩)]⟩)
              (fun p => p.1 ≠ 0 ∧ p.1 ≤ a ∧ (p.1 % 2 ≠ 0 ∨ b % 2 ≠ 0) ∧ Nat.gcd p.1 b * 2 ^ k = Nat.gcd (val x) (val y)) (fun p => p.1) (a, pa) ?_ ?_ ?_
            · exact weak_lit (by simp [okS, okV, okC, okL, okH, okB, okE, mkV_cons, mkV_nil, mkH_cons, mkH_nil, wsA, ws]) ⟨okB_wc rfl, okB_wc rfl, trivial⟩
            · exact ⟨ha, Nat.le_refl _, hodd, hg⟩
            · rintro ⟨a', pa⟩ ⟨ha', haa, hodd, hg⟩
              simp only at ha' haa hodd hg
              have hap := digs_pos_len ha'
              simp only [go_sem, ↓reduceIte, Nat.reduceEqDiff, Nat.reduceAdd, Nat.reduceLT, Nat.reduceLeDiff, Int.reduceToNat, Nat.reducePow, Nat.reduceMul, reduceCtorEq, hh, hcm, hk, hu, hp, and32_1, val_digs, List.length_append, Nat.le_add_right, List.take_left, digs_head ha', hap]
              refine ⟨by omega, by omega, Nat.mod_lt _ (by omega), fun he => ?_, fun hao => ?_⟩
              · simp only [halve_G]
                refine ⟨digs a', pa, rfl, by simp [mkH_cons], digs_WL _, by have := digs_len_mono haa; omega, fun pa' => ?_⟩
                simp only [go_sem, ↓reduceIte, Nat.reduceEqDiff, Nat.reduceAdd, Nat.reduceLT, Nat.reduceLeDiff, Int.reduceToNat, Nat.reducePow, Nat.reduceMul, reduceCtorEq, hh, hcm, hk, hu, hp, and32_1, val_digs, List.length_append, Nat.le_add_right, List.take_left]
                refine ⟨(a' / 2, pa'), weak_lit (by simp [okS, okV, okC, okL, okH, okB, okE, mkV_cons, mkV_nil, mkH_cons, mkH_nil, wsA, ws]) ⟨okB_wc rfl, okB_wc rfl, trivial⟩, ⟨by simp only; omega, by simp only; omega, .inr (by omega), ?_⟩, by simp only; omega⟩
                rw [← hg]; simp only; rw [gcd_eo (by omega) (by omega)]
              · refine wpA_loop (fun p : Nat × List Nat => ⟨mkV [(0, .one (.own 9 1 1 0 (digs a').length)), (1, .one (.own 7 1 1 0 (digs p.1).length)), (5, .one (.lit (.int .i64 k)))], mkH [(9, ⟨1, some ⟨(digs a' ++ pa).map wc, 1, true⟩⟩), (7, ⟨1, some ⟨(digs p.1 ++ p.2).map wc, 1, true⟩⟩)]⟩)
                  (fun p => p.1 ≠ 0 ∧ p.1 ≤ b ∧ Nat.gcd a' p.1 * 2 ^ k = Nat.gcd (val x) (val y)) (fun p => p.1) (b, pb) ?_ ?_ ?_
                · exact weak_lit (by simp [okS, okV, okC, okL, okH, okB, okE, mkV_cons, mkV_nil, mkH_cons, mkH_nil, wsA, ws]) ⟨okB_wc rfl, okB_wc rfl, trivial⟩
                · exact ⟨hb, Nat.le_refl _, hg⟩
                · rintro ⟨b', pb⟩ ⟨hb', hbb, hg⟩
                  simp only at hb' hbb hg
                  have hbp := digs_pos_len hb'
                  simp only [go_sem, ↓reduceIte, Nat.reduceEqDiff, Nat.reduceAdd, Nat.reduceLT, Nat.reduceLeDiff, Int.reduceToNat, Nat.reducePow, Nat.reduceMul, reduceCtorEq, hh, hcm, hk, hu, hp, and32_1, val_digs, List.length_append, Nat.le_add_right, List.take_left, digs_head hb', hbp]
                  refine ⟨by omega, by omega, Nat.mod_lt _ (by omega), fun he => ?_, fun hbo => ?_⟩
                  · simp only [halve_G]
                    refine ⟨digs b', pb, rfl, by simp [mkH_cons], digs_WL _, by have := digs_len_mono hbb; omega, fun pb' => ?_⟩
                    simp only [go_sem, ↓reduceIte, Nat.reduceEqDiff, Nat.reduceAdd, Nat.reduceLT, Nat.reduceLeDiff, Int.reduceToNat, Nat.reducePow, Nat.reduceMul, reduceCtorEq, hh, hcm, hk, hu, hp, and32_1, val_digs, List.length_append, Nat.le_add_right, List.take_left]
                    refine ⟨(b' / 2, pb'), weak_lit (by simp [okS, okV, okC, okL, okH, okB, okE, mkV_cons, mkV_nil, mkH_cons, mkH_nil, wsA, ws]) ⟨okB_wc rfl, okB_wc rfl, trivial⟩, ⟨by simp only; omega, by simp only; omega, ?_⟩, by simp only; omega⟩
                    rw [← hg]; simp only; rw [gcd_oe (by omega) (by omega)]
                  · have hlb := digs_len_mono hbb
                    have hla := digs_len_mono haa
                    refine ⟨digs_WL _, digs_WL _, fun hlt => ?_, fun hge => ?_⟩
                    · have hlt := ordN_neg.1 hlt
                      simp only [take_G]
                      have e : val (dig (digs b').length (val (digs b') - val (digs a'))) = b' - a' := by
                        rw [val_dig, val_digs, val_digs, Nat.mod_eq_of_lt]
                        exact Nat.lt_of_le_of_lt (Nat.sub_le _ _) (lt_digs_len b')
                      refine ⟨digs b', pb, digs a', pa, by decide, rfl, by simp [mkH_cons], digs_WL _, by omega, rfl, by simp [mkH_cons], digs_WL _, by rw [val_digs, val_digs]; omega, ?_⟩
                      refine ⟨dig (digs b').length (val (digs b') - val (digs a')), pb, (dig_length _ _).symm, by simp [upd, mkH_cons], dig_WL _ _, by omega, fun post' => ?_⟩
                      simp only [go_sem, ↓reduceIte, Nat.reduceEqDiff, Nat.reduceAdd, Nat.reduceLT, Nat.reduceLeDiff, Int.reduceToNat, Nat.reducePow, Nat.reduceMul, reduceCtorEq, e]
                      have hle := Nat.le_trans (digs_len_mono (Nat.sub_le b' a')) (digs_len_mono hbb)
                      refine ⟨(false, (b' - a', post'), (a', pa)), weak_lit (by simp [okS, okV, okC, okL, okH, okB, okE, mkV_cons, mkV_nil, mkH_cons, mkH_nil, wsA, ws]) ⟨okB_wc rfl, okB_wc rfl, trivial⟩, ⟨ha', .inr (by simp only; omega), by simp only; omega, by simp only; omega, ?_⟩, by simp only; omega⟩
                      simp only
                      rw [gcd_sub (by omega), Nat.gcd_comm]; exact hg
                    · have hge := mt ordN_neg.2 hge
                      simp only [take_G]
                      have e : val (dig (digs a').length (val (digs a') - val (digs b'))) = a' - b' := by
                        rw [val_dig, val_digs, val_digs, Nat.mod_eq_of_lt]
                        exact Nat.lt_of_le_of_lt (Nat.sub_le _ _) (lt_digs_len a')
                      refine ⟨digs a', pa, digs b', pb, by decide, rfl, by simp [mkH_cons], digs_WL _, by omega, rfl, by simp [mkH_cons], digs_WL _, by rw [val_digs, val_digs]; omega, ?_⟩
                      refine ⟨dig (digs a').length (val (digs a') - val (digs b')), pa, (dig_length _ _).symm, by simp [upd, mkH_cons], dig_WL _ _, by omega, fun post' => ?_⟩
                      simp only [go_sem, ↓reduceIte, Nat.reduceEqDiff, Nat.reduceAdd, Nat.reduceLT, Nat.reduceLeDiff, Int.reduceToNat, Nat.reducePow, Nat.reduceMul, reduceCtorEq, e]
                      have hle := Nat.le_trans (digs_len_mono (Nat.sub_le a' b')) (digs_len_mono haa)
                      refine ⟨(true, (a' - b', post'), (b', pb)), weak_lit (by simp [okS, okV, okC, okL, okH, okB, okE, mkV_cons, mkV_nil, mkH_cons, mkH_nil, wsA, ws]) ⟨okB_wc rfl, okB_wc rfl, trivial⟩, ⟨hb', .inr (by simp only; omega), by simp only; omega, by simp only; omega, ?_⟩, by simp only; omega⟩
                      simp only
                      rw [gcd_sub (by omega)]; exact hg
          · have ha : a = 0 := digs_len0.1 (by omega)
            rw [ha, Nat.gcd_zero_left] at hg
            refine wpA_loop (fun j : Nat => ⟨mkV [(1, .one (ws (digs (b * 2 ^ j)))), (64, .one (.lit (.int .i64 k))), (65, .one (.lit (.int .i64 j)))], mkH []⟩) (fun j => j ≤ k) (fun j => k - j) 0 ?_ ?_ ?_
            · exact weak_lit (by simp [okS, okV, okC, okL, okH, okB, okE, mkV_cons, mkV_nil, mkH_cons, mkH_nil, wsA, ws]) trivial
            · exact Nat.zero_le _
            · rintro j hj
              simp only [go_sem, ↓reduceIte, Nat.reduceEqDiff, Nat.reduceAdd, Nat.reduceLT, Nat.reduceLeDiff, Int.reduceToNat, Nat.reducePow, Nat.reduceMul, reduceCtorEq, hh, hcm, hk, hu, hp, and32_1, val_digs, List.length_append, Nat.le_add_right, List.take_left]
              refine ⟨fun hlt => ?_, fun hge => ?_⟩
              · have hj1 : b * 2 ^ (j + 1) ≤ val x := by
                  refine Nat.le_trans (Nat.mul_le_mul_left b (Nat.pow_le_pow_right (by omega) hlt)) ?_
                  rw [hg]; exact Nat.le_of_dvd (by omega) (Nat.gcd_dvd_left _ _)
                have e : b * 2 ^ j + b * 2 ^ j = b * 2 ^ (j + 1) := by rw [Nat.pow_succ, ← Nat.mul_assoc]; omega
                have hl1 := Nat.le_trans (digs_len_mono (show b * 2 ^ j ≤ val x by omega)) hxv
                rw [e]
                refine ⟨digs_WL _, digs_WL _, by omega, by omega, by omega, j + 1, weak_lit (by simp [okS, okV, okC, okL, okH, okB, okE, mkV_cons, mkV_nil, mkH_cons, mkH_nil, wsA, ws]) trivial, by omega, by omega⟩
              · have e : j = k := by omega
                rw [e, hg]; exact hK

end Go.Abs
end

/-
  The second integers: division bit by bit.
-/
section
set_option linter.unusedVariables false
set_option linter.unusedSimpArgs false
set_option maxRecDepth 100000
namespace Go.Abs
open Go.Num

variable {P : Program} {Γ : Nat → Spec}

/-- linkwork/linkworkref01.divide (76) [.tmp 4, .tmp 5] -/
def ac_linkworkref01_divide (f_linkworkref01_bits f_linkworkref01_compare f_linkworkref01_take f_linkworkref01_trim : Nat) : AC := (.seq (.ops false [⟨some 4, none, .mv (.c (.one .emp))⟩, ⟨some 5, none, .mv (.c (.one .emp))⟩])
 (.fg [0, 1] (.seq (.ops false [⟨some 11, none, .mv (.t 0)⟩, ⟨some 12, none, .len (.t 11)⟩, ⟨some 13, none, .mk 1 [(.lit (.int .u32 0))] (.t 12) (.t 12)⟩, ⟨some 6, none, .mv (.t 13)⟩])
 (.fg [0, 1, 6] (.seq (.ops false [⟨some 14, none, .mv (.t 1)⟩, ⟨some 15, none, .len (.t 14)⟩, ⟨some 16, none, .bin .add (.t 15) (.c (.one (.lit (.int .i64 1))))⟩, ⟨some 17, none, .mk 1 [(.lit (.int .u32 0))] (.t 16) (.t 16)⟩, ⟨some 7, none, .mv (.t 17)⟩])
 (.fg [0, 1, 6, 7] (.seq (.seq (.ops false [⟨some 18, none, .mv (.t 0)⟩, ⟨some 19, none, .call f_linkworkref01_bits [(.t 18)]⟩, ⟨some 20, none, .bin .sub (.t 19) (.c (.one (.lit (.int .i64 1))))⟩, ⟨some 8, none, .mv (.t 20)⟩])
 (.fg [0, 1, 6, 7, 8] (.block 0 (.loop (.seq (.seq (.ops false [⟨some 21, none, .mv (.t 8)⟩, ⟨some 22, none, .bin .geq (.t 21) (.c (.one (.lit (.int .i64 0))))⟩])
 (.fg [0, 1, 6, 7, 8, 22] (.cond (.t 22) .skip (.exit 0))))
 (.fg [0, 1, 6, 7, 8] (.seq (.block 1 (.seq (.ops false [⟨some 25, none, .mv (.t 0)⟩, ⟨some 26, none, .mv (.t 8)⟩, ⟨some 27, none, .bin .quo (.t 26) (.c (.one (.lit (.int .i64 32))))⟩, ⟨some 28, none, .idx 1 (.t 25) (.t 27)⟩, ⟨some 29, none, .ld none 1 false (.t 28)⟩, ⟨some 30, none, .mv (.t 8)⟩, ⟨some 31, none, .bin .rem (.t 30) (.c (.one (.lit (.int .i64 32))))⟩, ⟨some 32, none, .bin .shr (.t 29) (.t 31)⟩, ⟨some 33, none, .bin .and (.t 32) (.c (.one (.lit (.int .u32 1))))⟩, ⟨some 9, none, .mv (.t 33)⟩])
 (.fg [0, 1, 6, 7, 8, 9] (.seq (.seq (.ops false [⟨some 34, none, .mv (.t 7)⟩, ⟨some 35, none, .len (.t 34)⟩, ⟨some 36, none, .mv (.c (.one (.lit (.int .i64 0))))⟩])
 (.fg [0, 1, 6, 7, 8, 9, 35, 36] (.block 2 (.loop (.seq (.ops false [⟨some 37, none, .bin .lss (.t 36) (.t 35)⟩])
 (.fg [0, 1, 6, 7, 8, 9, 35, 36, 37] (.seq (.cond (.t 37) .skip (.exit 2))
 (.fg [0, 1, 6, 7, 8, 9, 35, 36] (.seq (.block 3 (.seq (.ops false [⟨some 38, none, .mv (.t 36)⟩, ⟨some 10, none, .mv (.t 38)⟩])
 (.fg [0, 1, 6, 7, 8, 9, 10, 35, 36] (.ops true [⟨some 39, none, .mv (.t 7)⟩, ⟨some 40, none, .mv (.t 10)⟩, ⟨some 41, none, .mv (.t 7)⟩, ⟨some 42, none, .mv (.t 10)⟩, ⟨some 43, none, .idx 1 (.t 41) (.t 42)⟩, ⟨some 44, none, .ld none 1 false (.t 43)⟩, ⟨some 45, none, .bin .shl (.t 44) (.c (.one (.lit (.int .u64 1))))⟩, ⟨some 46, none, .mv (.t 9)⟩, ⟨some 47, none, .bin .or (.t 45) (.t 46)⟩, ⟨some 48, none, .mv (.t 7)⟩, ⟨some 49, none, .mv (.t 10)⟩, ⟨some 50, none, .idx 1 (.t 48) (.t 49)⟩, ⟨some 51, none, .ld none 1 false (.t 50)⟩, ⟨some 52, none, .bin .shr (.t 51) (.c (.one (.lit (.int .u64 31))))⟩, ⟨some 53, none, .idx 1 (.t 39) (.t 40)⟩, ⟨none, none, .st none 1 (.t 53) (.t 47)⟩, ⟨some 9, none, .mv (.t 52)⟩]))))
 (.fg [0, 1, 6, 7, 8, 9, 35, 36] (.ops false [⟨some 54, none, .bin .add (.t 36) (.c (.one (.lit (.int .i64 1))))⟩, ⟨some 36, none, .mv (.t 54)⟩])))))))))))
 (.fg [0, 1, 6, 7, 8] (.seq (.ops false [⟨some 55, none, .mv (.t 7)⟩, ⟨some 56, none, .mv (.t 1)⟩, ⟨some 57, none, .call f_linkworkref01_compare [(.t 55), (.t 56)]⟩, ⟨some 58, none, .bin .geq (.t 57) (.c (.one (.lit (.int .i64 0))))⟩])
 (.fg [0, 1, 6, 7, 8, 58] (.cond (.t 58) (.seq (.ops false [⟨some 59, none, .mv (.t 7)⟩, ⟨some 60, none, .mv (.t 1)⟩, ⟨some 61, none, .call f_linkworkref01_take [(.t 59), (.t 60)]⟩])
 (.fg [0, 1, 6, 7, 8] (.ops true [⟨some 62, none, .mv (.t 6)⟩, ⟨some 63, none, .mv (.t 8)⟩, ⟨some 64, none, .bin .quo (.t 63) (.c (.one (.lit (.int .i64 32))))⟩, ⟨some 65, none, .idx 1 (.t 62) (.t 64)⟩, ⟨some 66, none, .ld none 1 false (.t 65)⟩, ⟨some 67, none, .mv (.t 8)⟩, ⟨some 68, none, .bin .rem (.t 67) (.c (.one (.lit (.int .i64 32))))⟩, ⟨some 69, none, .bin .shl (.c (.one (.lit (.int .u32 1)))) (.t 68)⟩, ⟨some 70, none, .bin .or (.t 66) (.t 69)⟩, ⟨some 71, none, .idx 1 (.t 62) (.t 64)⟩, ⟨none, none, .st none 1 (.t 71) (.t 70)⟩]))) .skip))))))))
 (.fg [0, 1, 6, 7, 8] (.ops false [⟨some 23, none, .mv (.t 8)⟩, ⟨some 24, none, .bin .sub (.t 23) (.c (.one (.lit (.int .i64 1))))⟩, ⟨some 8, none, .mv (.t 24)⟩])))))))))
 (.fg [6, 7] (.seq (.ops false [⟨some 72, none, .mv (.t 6)⟩, ⟨some 73, none, .callf f_linkworkref01_trim [(.t 72)]⟩, ⟨some 74, none, .mv (.t 7)⟩, ⟨some 75, none, .callf f_linkworkref01_trim [(.t 74)]⟩, ⟨some 4, none, .mv (.t 73)⟩, ⟨some 5, none, .mv (.t 75)⟩])
 .ret)))))))))


theorem divide01_sound (hΓ : Holds P Γ) {f fb fc fk ft : Nat} (hb : Γ fb = .dat true bits01_G) (hcm : Γ fc = .dat true cmp01_G) (hk : Γ fk = .own take_G) (ht : Γ ft = .fresh 1 tr01_G)
    (hc : check P f = some (76, (ac_linkworkref01_divide fb fc fk ft).strip, [.tmp 4, .tmp 5])) : Sound P f (.dat false divide_G) := by
  refine sound_dat hc divide_good hΓ (fun args K hcl hfi hG => ?_)
  match args, hG with
  | [a, b], hG =>
    obtain ⟨x, rfl, hx, y, rfl, hy, hnx, hny, hy0, hxl, hyl, hK⟩ := hG
    refine ⟨by simp, ?_⟩
    simp only [go_sem, ↓reduceIte, Nat.reduceEqDiff, Nat.reduceAdd, Nat.reduceLT, Nat.reduceLeDiff, Int.reduceToNat, Nat.reducePow, Nat.reduceMul, reduceCtorEq, ac_linkworkref01_divide, hb, hcm, hk, ht]
    intro h1
    refine ⟨by omega, fun _ => ⟨by omega, by omega, hx, by omega, ?_⟩⟩
    obtain ⟨n, hn⟩ : ∃ n, (if x.length = 0 then 0 else 32 * (x.length - 1) + bln (x.getD (x.length - 1) 0)) = n := ⟨_, rfl⟩
    have hnlt : val x < 2 ^ n := by
      rw [← hn]; split
      · rename_i h0; rw [List.eq_nil_of_length_eq_zero h0]; simp [val]
      · exact bits_lt hx ‹_›
    have hnb : n ≤ 32 * x.length := by
      rw [← hn]; split
      · omega
      · have := bln_le (k := 32) (n := x.getD (x.length - 1) 0) (WL_getD hx _); omega
    have hy1 : 0 < val y := by
      have := val_pos_of_NZ hny hy0; omega
    rw [hn]
    refine ⟨by omega, ?_⟩
    refine wpA_loop (fun p : Nat × List Nat × List Nat => ⟨mkV [(0, wsA x), (1, wsA y), (6, .one (.own 13 1 1 0 x.length)), (7, .one (.own 17 1 1 0 (y.length + 1))), (8, .one (.lit (.int .i64 ((p.1 : Int) - 1))))], mkH [(13, ⟨1, some ⟨p.2.1.map wc, 1, true⟩⟩), (17, ⟨1, some ⟨p.2.2.map wc, 1, true⟩⟩)]⟩)
      (fun p => p.1 ≤ n ∧ WL p.2.1 ∧ p.2.1.length = x.length ∧ val p.2.1 = val x / 2 ^ p.1 / val y * 2 ^ p.1 ∧ WL p.2.2 ∧ p.2.2.length = y.length + 1 ∧ val p.2.2 = val x / 2 ^ p.1 % val y) (fun p => p.1) (n, List.replicate x.length 0, List.replicate (y.length + 1) 0) ?_ ?_ ?_
    · exact weak_lit (by simp [okS, okV, okC, okL, okH, okB, okE, mkV_cons, mkV_nil, mkH_cons, mkH_nil, wsA, ws]) ⟨okB_wc (by simp), okB_wc (by simp), trivial⟩
    · simp [WL_rep, val_rep, Nat.div_eq_of_lt hnlt]
    · rintro ⟨n', q, r⟩ ⟨hn', hq, hql, hqv, hr, hrl, hrv⟩
      simp only at hn' hq hql hqv hr hrl hrv
      cases n' with
      | zero =>
        have e : ((0 : Nat) : Int) - 1 = -1 := rfl
        have e' : ((0 : Int) ≤ -1) = False := by simp
        simp only [go_sem, ↓reduceIte, Nat.reduceEqDiff, Nat.reduceAdd, Nat.reduceLT, Nat.reduceLeDiff, Int.reduceToNat, Nat.reducePow, Nat.reduceMul, reduceCtorEq, hb, hcm, hk, ht, e, e', hql, hrl]
        simp only [Nat.pow_zero, Nat.div_one, Nat.mul_one] at hqv hrv
        rw [hqv, hrv]
        exact ⟨hq, by omega, hr, by omega, hK⟩
      | succ i =>
        have e : ((i + 1 : Nat) : Int) - 1 = (i : Int) := by omega
        have e1 : (i : Int) / 32 = ((i / 32 : Nat) : Int) := rfl
        have e2 : (i : Int) % 32 = ((i % 32 : Nat) : Int) := rfl
        have e3 := bit_at hx i
        have hi32 : i / 32 < x.length := by omega
        have hib : i % 32 < 32 := Nat.mod_lt _ (by omega)
        simp only [go_sem, ↓reduceIte, Nat.reduceEqDiff, Nat.reduceAdd, Nat.reduceLT, Nat.reduceLeDiff, Int.reduceToNat, Nat.reducePow, Nat.reduceMul, reduceCtorEq, hb, hcm, hk, ht, e, e1, e2, e3, and32_1, hql, hrl]
        have g1 := WL_getD hx (i / 32)
        have g2 : x.getD (i / 32) 0 / 2 ^ (i % 32) < 2 ^ IntKind.u32.bits := Nat.lt_of_le_of_lt (Nat.div_le_self _ _) g1
        have g3 : ((i % 32 : Nat) : Int) ≤ IntKind.u32.bits := by have : IntKind.u32.bits = 32 := rfl; omega
        refine ⟨by decide, by omega, hi32, by decide, by omega, g2, fun hyl' => ?_⟩
        generalize hbit : val x / 2 ^ i % 2 = bit
        have hbit1 : bit ≤ 1 := by omega
        refine wpA_loop (fun p : List Nat × Nat => ⟨mkV [(0, wsA x), (1, wsA y), (6, .one (.own 13 1 1 0 x.length)), (7, .one (.own 17 1 1 0 (y.length + 1))), (8, .one (.lit (.int .i64 i))), (9, .one (.lit (.int .u32 p.2))), (35, .one (.lit (.int .i64 (y.length + 1 : Nat)))), (36, .one (.lit (.int .i64 p.1.length)))],
            mkH [(13, ⟨1, some ⟨q.map wc, 1, true⟩⟩), (17, ⟨1, some ⟨(p.1 ++ r.drop p.1.length).map wc, 1, true⟩⟩)]⟩)
          (fun p => p.1.length ≤ r.length ∧ WL p.1 ∧ p.2 ≤ 1 ∧ val p.1 + 4294967296 ^ p.1.length * p.2 = 2 * val (r.take p.1.length) + bit) (fun p => r.length - p.1.length) ([], bit) ?_ ?_ ?_
        · exact weak_lit (by simp [okS, okV, okC, okL, okH, okB, okE, mkV_cons, mkV_nil, mkH_cons, mkH_nil, wsA, ws]) ⟨okB_wc rfl, okB_wc (by simp), trivial⟩
        · simp [WL_nil, val, hbit1]
        · rintro ⟨o, c⟩ ⟨hol, ho, hc1, hov⟩
          simp only at hol ho hc1 hov
          by_cases hlt : o.length < y.length + 1
          · have g4 := WL_getD hr o.length
            simp only [go_sem, ↓reduceIte, Nat.reduceEqDiff, Nat.reduceAdd, Nat.reduceLT, Nat.reduceLeDiff, Int.reduceToNat, Nat.reducePow, Nat.reduceMul, reduceCtorEq, hb, hcm, hk, ht, len_od0 hol, hrl, hlt, get_od0, not_true, shl_or hc1, set_od0 _ (show o.length < r.length by omega)]
            refine ⟨⟨rfl, by decide, by decide⟩, ⟨rfl, Nat.mod_lt _ (by omega), by omega⟩, ⟨by decide, by decide⟩, by omega, (o ++ [r.getD o.length 0 * 2 % 4294967296 + c], r.getD o.length 0 / 2147483648), weak_lit (by simp [okS, okV, okC, okL, okH, okB, okE, mkV_cons, mkV_nil, mkH_cons, mkH_nil, wsA, ws]) ⟨okB_wc rfl, okB_wc rfl, trivial⟩, ⟨by simp; omega, WL_append.2 ⟨ho, WL_cons.2 ⟨by omega, WL_nil⟩⟩, by simp only; omega, ?_⟩, by simp; omega⟩
            simp only [List.length_append, List.length_cons, List.length_nil, Nat.zero_add, take_succ, val_append, val_cons, val_nil, Nat.mul_zero, Nat.add_zero, Nat.pow_succ]
            exact shl_step hov g4
          · have hoe : o.length = y.length + 1 := by omega
            have hd : r.drop (y.length + 1) = [] := List.drop_of_length_le (by omega)
            simp only [go_sem, ↓reduceIte, Nat.reduceEqDiff, Nat.reduceAdd, Nat.reduceLT, Nat.reduceLeDiff, Int.reduceToNat, Nat.reducePow, Nat.reduceMul, reduceCtorEq, hb, hcm, hk, ht, hd, hoe, Nat.lt_irrefl, e1, e2]
            have hrlt : val r < val y := by rw [hrv]; exact Nat.mod_lt _ hy1
            have hylt := val_lt hy
            rw [List.take_of_length_le (by omega), hoe, Nat.pow_succ] at hov
            have hc0 : c = 0 := by
              rcases Nat.eq_zero_or_pos c with h | h
              · exact h
              · exfalso
                have : 4294967296 ^ y.length * 4294967296 * 1 ≤ 4294967296 ^ y.length * 4294967296 * c := Nat.mul_le_mul_left _ h
                omega
            subst hc0
            rw [Nat.mul_zero, Nat.add_zero] at hov
            refine ⟨ho, hy, fun h => ?_, fun h => ?_⟩
            · have hge := ordN_ge.1 h
              have hs := div_step1 hy1 hbit hqv hrv (by omega)
              simp only [take_G, onWs_e]
              refine ⟨hy, o, [], hoe.symm, by simp [mkH_cons], ho, by omega, hge, ?_⟩
              have hp32 : 2 ^ (i % 32) < 4294967296 := Nat.lt_of_lt_of_le (Nat.pow_lt_pow_right (by omega) hib) (by decide)
              have e4 : (1 * 2 ^ (i % 32) % 4294967296 : Int) = ((2 ^ (i % 32) : Nat) : Int) := by
                rw [Int.one_mul, show ((2 : Int) ^ (i % 32)) = ((2 ^ (i % 32) : Nat) : Int) by rw [Int.natCast_pow]; rfl]
                generalize 2 ^ (i % 32) = w at hp32 ⊢
                omega
              have e5 := set_bit hib (low_bits hq hqv)
              have g5 := WL_getD hq (i / 32)
              simp only [go_sem, ↓reduceIte, Nat.reduceEqDiff, Nat.reduceAdd, Nat.reduceLT, Nat.reduceLeDiff, Int.reduceToNat, Nat.reducePow, Nat.reduceMul, reduceCtorEq, e1, e2, hql, dig_length, hoe, e4, e5]
              have hsv := val_set q (i / 32) (q.getD (i / 32) 0 + 2 ^ (i % 32)) (by omega)
              have hpp := pow_parts i
              rw [Nat.mul_add] at hsv
              have hv2 : val (q.set (i / 32) (q.getD (i / 32) 0 + 2 ^ (i % 32))) = val q + 2 ^ i := by omega
              have hsum : q.getD (i / 32) 0 + 2 ^ (i % 32) < 4294967296 := by
                rw [← e5]; exact Nat.or_lt_two_pow (n := 32) g5 hp32
              refine ⟨by decide, by omega, hi32, hi32, by decide, ⟨rfl, by decide, by omega⟩, ⟨rfl, g5, hp32⟩, hi32, hi32, ⟨by omega, by omega⟩, (i, q.set (i / 32) (q.getD (i / 32) 0 + 2 ^ (i % 32)), dig (y.length + 1) (val o - val y)), weak_lit (by simp [okS, okV, okC, okL, okH, okB, okE, mkV_cons, mkV_nil, mkH_cons, mkH_nil, wsA, ws]) ⟨okB_wc rfl, okB_wc rfl, trivial⟩, ⟨by simp only; omega, WL_set hq _ hsum, by simp [hql], ?_, dig_WL _ _, dig_length _ _, ?_⟩, by simp only; omega⟩
              · simp only
                rw [hv2]; exact hs.1
              · simp only
                rw [val_dig, hov, hs.2, Nat.mod_eq_of_lt]
                have := Nat.mod_lt (val x / 2 ^ i) hy1
                have h6 : (4294967296 : Nat) ^ y.length ≤ 4294967296 ^ (y.length + 1) := Nat.pow_le_pow_right (by omega) (by omega)
                omega
            · have hlt2 := mt ordN_ge.2 h
              have hs := div_step0 hy1 hbit hqv hrv (by omega)
              refine ⟨by omega, (i, q, o), weak_lit (by simp [okS, okV, okC, okL, okH, okB, okE, mkV_cons, mkV_nil, mkH_cons, mkH_nil, wsA, ws]) ⟨okB_wc rfl, okB_wc rfl, trivial⟩, ⟨by simp only; omega, hq, hql, hs.1, ho, hoe, by simp only; rw [hov]; exact hs.2⟩, by simp only; omega⟩

end Go.Abs
end
