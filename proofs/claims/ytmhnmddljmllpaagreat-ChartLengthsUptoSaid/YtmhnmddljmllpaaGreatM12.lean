/-
  Parts of the proof, merged: RefE, RefF.
-/
import Derived.Test.YtmhnmddljmllpaaGreatM11
set_option linter.unusedVariables false
set_option linter.unusedSimpArgs false
/-
  The second integers: division bit by bit.
-/
section
set_option linter.unusedVariables false
set_option linter.unusedSimpArgs false
set_option maxRecDepth 100000
namespace Go.Abs
open Go.Num

variable {P : Program} {Γ : Nat → Spec}

/-- linkwork/linkworkref01.divide (76) [.tmp 4, .tmp 5] -/
def ac_linkworkref01_divide (f_linkworkref01_bits f_linkworkref01_compare f_linkworkref01_take f_linkworkref01_trim : Nat) : AC := (.seq (.ops false [⟨some 4, none, .mv (.c (.one .emp))⟩, ⟨some 5, none, .mv (.c (.one .emp))⟩])
 (.fg [0, 1] (.seq (.ops false [⟨some 11, none, .mv (.t 0)⟩, ⟨some 12, none, .len (.t 11)⟩, ⟨some 13, none, .mk 1 [(.lit (.int .u32 0))] (.t 12) (.t 12)⟩, ⟨some 6, none, .mv (.t 13)⟩])
 (.fg [0, 1, 6] (.seq (.ops false [⟨some 14, none, .mv (.t 1)⟩, ⟨some 15, none, .len (.t 14)⟩, ⟨some 16, none, .bin .add (.t 15) (.c (.one (.lit (.int .i64 1))))⟩, ⟨some 17, none, .mk 1 [(.lit (.int .u32 0))] (.t 16) (.t 16)⟩, ⟨some 7, none, .mv (.t 17)⟩])
 (.fg [0, 1, 6, 7] (.seq (.seq (.ops false [⟨some 18, none, .mv (.t 0)⟩, ⟨some 19, none, .call f_linkworkref01_bits [(.t 18)]⟩, ⟨some 20, none, .bin .sub (.t 19) (.c (.one (.lit (.int .i64 1))))⟩, ⟨some 8, none, .mv (.t 20)⟩])
 (.fg [0, 1, 6, 7, 8] (.block 0 (.loop (.seq (.seq (.ops false [⟨some 21, none, .mv (.t 8)⟩, ⟨some 22, none, .bin .geq (.t 21) (.c (.one (.lit (.int .i64 0))))⟩])
 (.fg [0, 1, 6, 7, 8, 22] (.cond (.t 22) .skip (.exit 0))))
 (.fg [0, 1, 6, 7, 8] (.seq (.block 1 (.seq (.ops false [⟨some 25, none, .mv (.t 0)⟩, ⟨some 26, none, .mv (.t 8)⟩, ⟨some 27, none, .bin .quo (.t 26) (.c (.one (.lit (.int .i64 32))))⟩, ⟨some 28, none, .idx 1 (.t 25) (.t 27)⟩, ⟨some 29, none, .ld none 1 false (.t 28)⟩, ⟨some 30, none, .mv (.t 8)⟩, ⟨some 31, none, .bin .rem (.t 30) (.c (.one (.lit (.int .i64 32))))⟩, ⟨some 32, none, .bin .shr (.t 29) (.t 31)⟩, ⟨some 33, none, .bin .and (.t 32) (.c (.one (.lit (.int .u32 1))))⟩, ⟨some 9, none, .mv (.t 33)⟩])
 (.fg [0, 1, 6, 7, 8, 9] (.seq (.seq (.ops false [⟨some 34, none, .mv (.t 7)⟩, ⟨some 35, none, .len (.t 34)⟩, ⟨some 36, none, .mv (.c (.one (.lit (.int .i64 0))))⟩])
 (.fg [0, 1, 6, 7, 8, 9, 35, 36] (.block 2 (.loop (.seq (.ops false [⟨some 37, none, .bin .lss (.t 36) (.t 35)⟩])
 (.fg [0, 1, 6, 7, 8, 9, 35, 36, 37] (.seq (.cond (.t 37) .skip (.exit 2))
 (.fg [0, 1, 6, 7, 8, 9, 35, 36] (.seq (.block 3 (.seq (.ops false [⟨some 38, none, .mv (.t 36)⟩, ⟨some 10, none, .mv (.t 38)⟩])
 (.fg [0, 1, 6, 7, 8, 9, 10, 35, 36] (.ops true [⟨some 39, none, .mv (.t 7)⟩, ⟨some 40, none, .mv (.t 10)⟩, ⟨some 41, none, .mv (.t 7)⟩, ⟨some 42, none, .mv (.t 10)⟩, ⟨some 43, none, .idx 1 (.t 41) (.t 42)⟩, ⟨some 44, none, .ld none 1 false (.t 43)⟩, ⟨some 45, none, .bin .shl (.t 44) (.c (.one (.lit (.int .u64 1))))⟩, ⟨some 46, none, .mv (.t 9)⟩, ⟨some 47, none, .bin .or (.t 45) (.t 46)⟩, ⟨some 48, none, .mv (.t 7)⟩, ⟨some 49, none, .mv (.t 10)⟩, ⟨some 50, none, .idx 1 (.t 48) (.t 49)⟩, ⟨some 51, none, .ld none 1 false (.t 50)⟩, ⟨some 52, none, .bin .shr (.t 51) (.c (.one (.lit (.int .u64 31))))⟩, ⟨some 53, none, .idx 1 (.t 39) (.t 40)⟩, ⟨none, none, .st none 1 (.t 53) (.t 47)⟩, ⟨some 9, none, .mv (.t 52)⟩]))))
 (.fg [0, 1, 6, 7, 8, 9, 35, 36] (.ops false [⟨some 54, none, .bin .add (.t 36) (.c (.one (.lit (.int .i64 1))))⟩, ⟨some 36, none, .mv (.t 54)⟩])))))))))))
 (.fg [0, 1, 6, 7, 8] (.seq (.ops false [⟨some 55, none, .mv (.t 7)⟩, ⟨some 56, none, .mv (.t 1)⟩, ⟨some 57, none, .call f_linkworkref01_compare [(.t 55), (.t 56)]⟩, ⟨some 58, none, .bin .geq (.t 57) (.c (.one (.lit (.int .i64 0))))⟩])
 (.fg [0, 1, 6, 7, 8, 58] (.cond (.t 58) (.seq (.ops false [⟨some 59, none, .mv (.t 7)⟩, ⟨some 60, none, .mv (.t 1)⟩, ⟨some 61, none, .call f_linkworkref01_take [(.t 59), (.t 60)]⟩])
 (.fg [0, 1, 6, 7, 8] (.ops true [⟨some 62, none, .mv (.t 6)⟩, ⟨some 63, none, .mv (.t 8)⟩, ⟨some 64, none, .bin .quo (.t 63) (.c (.one (.lit (.int .i64 32))))⟩, ⟨some 65, none, .idx 1 (.t 62) (.t 64)⟩, ⟨some 66, none, .ld none 1 false (.t 65)⟩, ⟨some 67, none, .mv (.t 8)⟩, ⟨some 68, none, .bin .rem (.t 67) (.c (.one (.lit (.int .i64 32))))⟩, ⟨some 69, none, .bin .shl (.c (.one (.lit (.int .u32 1)))) (.t 68)⟩, ⟨some 70, none, .bin .or (.t 66) (.t 69)⟩, ⟨some 71, none, .idx 1 (.t 62) (.t 64)⟩, ⟨none, none, .st none 1 (.t 71) (.t 70)⟩]))) .skip))))))))
 (.fg [0, 1, 6, 7, 8] (.ops false [⟨some 23, none, .mv (.t 8)⟩, ⟨some 24, none, .bin .sub (.t 23) (.c (.one (.lit (.int .i64 1))))⟩, ⟨some 8, none, .mv (.t 24)⟩])))))))))
 (.fg [6, 7] (.seq (.ops false [⟨some 72, none, .mv (.t 6)⟩, ⟨some 73, none, .callf f_linkworkref01_trim [(.t 72)]⟩, ⟨some 74, none, .mv (.t 7)⟩, ⟨some 75, none, .callf f_linkworkref01_trim [(.t 74)]⟩, ⟨some 4, none, .mv (.t 73)⟩, ⟨some 5, none, .mv (.t 75)⟩])
 .ret)))))))))


theorem divide01_sound (hΓ : Holds P Γ) {f fb fc fk ft : Nat} (hb : Γ fb = .dat true bits01_G) (hcm : Γ fc = .dat true cmp01_G) (hk : Γ fk = .own take_G) (ht : Γ ft = .fresh 1 tr01_G)
    (hc : check P f = some (76, (ac_linkworkref01_divide fb fc fk ft).strip, [.tmp 4, .tmp 5])) : Sound P f (.dat false divide_G) := by
  refine sound_dat hc divide_good hΓ (fun args K hcl hfi hG => ?_)
  match args, hG with
  | [a, b], hG =>
    obtain ⟨x, rfl, hx, y, rfl, hy, hnx, hny, hy0, hxl, hyl, hK⟩ := hG
    refine ⟨by simp, ?_⟩
    simp only [go_sem, ↓reduceIte, Nat.reduceEqDiff, Nat.reduceAdd, Nat.reduceLT, Nat.reduceLeDiff, Int.reduceToNat, Nat.reducePow, Nat.reduceMul, reduceCtorEq, ac_linkworkref01_divide, hb, hcm, hk, ht]
    intro h1
    refine ⟨by omega, fun _ => ⟨by omega, by omega, hx, by omega, ?_⟩⟩
    obtain ⟨n, hn⟩ : ∃ n, (if x.length = 0 then 0 else 32 * (x.length - 1) + bln (x.getD (x.length - 1) 0)) = n := ⟨_, rfl⟩
    have hnlt : val x < 2 ^ n := by
      rw [← hn]; split
      · rename_i h0; rw [List.eq_nil_of_length_eq_zero h0]; simp [val]
      · exact bits_lt hx ‹_›
    have hnb : n ≤ 32 * x.length := by
      rw [← hn]; split
      · omega
      · have := bln_le (k := 32) (n := x.getD (x.length - 1) 0) (WL_getD hx _); omega
    have hy1 : 0 < val y := by
      have := val_pos_of_NZ hny hy0; omega
    rw [hn]
    refine ⟨by omega, ?_⟩
    refine wpA_loop (fun p : Nat × List Nat × List Nat => ⟨mkV [(0, wsA x), (1, wsA y), (6, .one (.own 13 1 1 0 x.length)), (7, .one (.own 17 1 1 0 (y.length + 1))), (8, .one (.lit (.int .i64 ((p.1 : Int) - 1))))], mkH [(13, ⟨1, some ⟨p.2.1.map wc, 1, true⟩⟩), (17, ⟨1, some ⟨p.2.2.map wc, 1, true⟩⟩)]⟩)
      (fun p => p.1 ≤ n ∧ WL p.2.1 ∧ p.2.1.length = x.length ∧ val p.2.1 = val x / 2 ^ p.1 / val y * 2 ^ p.1 ∧ WL p.2.2 ∧ p.2.2.length = y.length + 1 ∧ val p.2.2 = val x / 2 ^ p.1 % val y) (fun p => p.1) (n, List.replicate x.length 0, List.replicate (y.length + 1) 0) ?_ ?_ ?_
    · exact weak_lit (by simp [okS, okV, okC, okL, okH, okB, okE, mkV_cons, mkV_nil, mkH_cons, mkH_nil, wsA, ws]) ⟨okB_wc (by simp), okB_wc (by simp), trivial⟩
    · simp [WL_rep, val_rep, Nat.div_eq_of_lt hnlt]
    · rintro ⟨n', q, r⟩ ⟨hn', hq, hql, hqv, hr, hrl, hrv⟩
      simp only at hn' hq hql hqv hr hrl hrv
      cases n' with
      | zero =>
        have e : ((0 : Nat) : Int) - 1 = -1 := rfl
        have e' : ((0 : Int) ≤ -1) = False := by simp
        simp only [go_sem, ↓reduceIte, Nat.reduceEqDiff, Nat.reduceAdd, Nat.reduceLT, Nat.reduceLeDiff, Int.reduceToNat, Nat.reducePow, Nat.reduceMul, reduceCtorEq, hb, hcm, hk, ht, e, e', hql, hrl]
        simp only [Nat.pow_zero, Nat.div_one, Nat.mul_one] at hqv hrv
        rw [hqv, hrv]
        exact ⟨hq, by omega, hr, by omega, hK⟩
      | succ i =>
        have e : ((i + 1 : Nat) : Int) - 1 = (i : Int) := by omega
        have e1 : (i : Int) / 32 = ((i / 32 : Nat) : Int) := rfl
        have e2 : (i : Int) % 32 = ((i % 32 : Nat) : Int) := rfl
        have e3 := bit_at hx i
        have hi32 : i / 32 < x.length := by omega
        have hib : i % 32 < 32 := Nat.mod_lt _ (by omega)
        simp only [go_sem, ↓reduceIte, Nat.reduceEqDiff, Nat.reduceAdd, Nat.reduceLT, Nat.reduceLeDiff, Int.reduceToNat, Nat.reducePow, Nat.reduceMul, reduceCtorEq, hb, hcm, hk, ht, e, e1, e2, e3, and32_1, hql, hrl]
        have g1 := WL_getD hx (i / 32)
        have g2 : x.getD (i / 32) 0 / 2 ^ (i % 32) < 2 ^ IntKind.u32.bits := Nat.lt_of_le_of_lt (Nat.div_le_self _ _) g1
        have g3 : ((i % 32 : Nat) : Int) ≤ IntKind.u32.bits := by have : IntKind.u32.bits = 32 := rfl; omega
        refine ⟨by decide, by omega, hi32, by decide, by omega, g2, fun hyl' => ?_⟩
        generalize hbit : val x / 2 ^ i % 2 = bit
        have hbit1 : bit ≤ 1 := by omega
        refine wpA_loop (fun p : List Nat × Nat => ⟨mkV [(0, wsA x), (1, wsA y), (6, .one (.own 13 1 1 0 x.length)), (7, .one (.own 17 1 1 0 (y.length + 1))), (8, .one (.lit (.int .i64 i))), (9, .one (.lit (.int .u32 p.2))), (35, .one (.lit (.int .i64 (y.length + 1 : Nat)))), (36, .one (.lit (.int .i64 p.1.length)))],
            mkH [(13, ⟨1, some ⟨q.map wc, 1, true⟩⟩), (17, ⟨1, some ⟨(p.1 ++ r.drop p.1.length).map wc, 1, true⟩⟩)]⟩)
          (fun p => p.1.length ≤ r.length ∧ WL p.1 ∧ p.2 ≤ 1 ∧ val p.1 + 4294967296 ^ p.1.length * p.2 = 2 * val (r.take p.1.length) + bit) (fun p => r.length - p.1.length) ([], bit) ?_ ?_ ?_
        · exact weak_lit (by simp [okS, okV, okC, okL, okH, okB, okE, mkV_cons, mkV_nil, mkH_cons, mkH_nil, wsA, ws]) ⟨okB_wc rfl, okB_wc (by simp), trivial⟩
        · simp [WL_nil, val, hbit1]
        · rintro ⟨o, c⟩ ⟨hol, ho, hc1, hov⟩
          simp only at hol ho hc1 hov
          by_cases hlt : o.length < y.length + 1
          · have g4 := WL_getD hr o.length
            simp only [go_sem, ↓reduceIte, Nat.reduceEqDiff, Nat.reduceAdd, Nat.reduceLT, Nat.reduceLeDiff, Int.reduceToNat, Nat.reducePow, Nat.reduceMul, reduceCtorEq, hb, hcm, hk, ht, len_od0 hol, hrl, hlt, get_od0, not_true, shl_or hc1, set_od0 _ (show o.length < r.length by omega)]
            refine ⟨⟨rfl, by decide, by decide⟩, ⟨rfl, Nat.mod_lt _ (by omega), by omega⟩, ⟨by decide, by decide⟩, by omega, (o ++ [r.getD o.length 0 * 2 % 4294967296 + c], r.getD o.length 0 / 2147483648), weak_lit (by simp [okS, okV, okC, okL, okH, okB, okE, mkV_cons, mkV_nil, mkH_cons, mkH_nil, wsA, ws]) ⟨okB_wc rfl, okB_wc rfl, trivial⟩, ⟨by simp; omega, WL_append.2 ⟨ho, WL_cons.2 ⟨by omega, WL_nil⟩⟩, by simp only; omega, ?_⟩, by simp; omega⟩
            simp only [List.length_append, List.length_cons, List.length_nil, Nat.zero_add, take_succ, val_append, val_cons, val_nil, Nat.mul_zero, Nat.add_zero, Nat.pow_succ]
            exact shl_step hov g4
          · have hoe : o.length = y.length + 1 := by omega
            have hd : r.drop (y.length + 1) = [] := List.drop_of_length_le (by omega)
            simp only [go_sem, ↓reduceIte, Nat.reduceEqDiff, Nat.reduceAdd, Nat.reduceLT, Nat.reduceLeDiff, Int.reduceToNat, Nat.reducePow, Nat.reduceMul, reduceCtorEq, hb, hcm, hk, ht, hd, hoe, Nat.lt_irrefl, e1, e2]
            have hrlt : val r < val y := by rw [hrv]; exact Nat.mod_lt _ hy1
            have hylt := val_lt hy
            rw [List.take_of_length_le (by omega), hoe, Nat.pow_succ] at hov
            have hc0 : c = 0 := by
              rcases Nat.eq_zero_or_pos c with h | h
              · exact h
              · exfalso
                have : 4294967296 ^ y.length * 4294967296 * 1 ≤ 4294967296 ^ y.length * 4294967296 * c := Nat.mul_le_mul_left _ h
                omega
            subst hc0
            rw [Nat.mul_zero, Nat.add_zero] at hov
            refine ⟨ho, hy, fun h => ?_, fun h => ?_⟩
            · have hge := ordN_ge.1 h
              have hs := div_step1 hy1 hbit hqv hrv (by omega)
              simp only [take_G, onWs_e]
              refine ⟨hy, o, [], hoe.symm, by simp [mkH_cons], ho, by omega, hge, ?_⟩
              have hp32 : 2 ^ (i % 32) < 4294967296 := Nat.lt_of_lt_of_le (Nat.pow_lt_pow_right (by omega) hib) (by decide)
              have e4 : (1 * 2 ^ (i % 32) % 4294967296 : Int) = ((2 ^ (i % 32) : Nat) : Int) := by
                rw [Int.one_mul, show ((2 : Int) ^ (i % 32)) = ((2 ^ (i % 32) : Nat) : Int) by rw [Int.natCast_pow]; rfl]
                generalize 2 ^ (i % 32) = w at hp32 ⊢
                omega
              have e5 := set_bit hib (low_bits hq hqv)
              have g5 := WL_getD hq (i / 32)
              simp only [go_sem, ↓reduceIte, Nat.reduceEqDiff, Nat.reduceAdd, Nat.reduceLT, Nat.reduceLeDiff, Int.reduceToNat, Nat.reducePow, Nat.reduceMul, reduceCtorEq, e1, e2, hql, dig_length, hoe, e4, e5]
              have hsv := val_set q (i / 32) (q.getD (i / 32) 0 + 2 ^ (i % 32)) (by omega)
              have hpp := pow_parts i
              rw [Nat.mul_add] at hsv
              have hv2 : val (q.set (i / 32) (q.getD (i / 32) 0 + 2 ^ (i % 32))) = val q + 2 ^ i := by omega
              have hsum : q.getD (i / 32) 0 + 2 ^ (i % 32) < 4294967296 := by
                rw [← e5]; exact Nat.or_lt_two_pow (n := 32) g5 hp32
              refine ⟨by decide, by omega, hi32, hi32, by decide, ⟨rfl, by decide, by omega⟩, ⟨rfl, g5, hp32⟩, hi32, hi32, ⟨by omega, by omega⟩, (i, q.set (i / 32) (q.getD (i / 32) 0 + 2 ^ (i % 32)), dig (y.length + 1) (val o - val y)), weak_lit (by simp [okS, okV, okC, okL, okH, okB, okE, mkV_cons, mkV_nil, mkH_cons, mkH_nil, wsA, ws]) ⟨okB_wc rfl, okB_wc rfl, trivial⟩, ⟨by simp only; omega, WL_set hq _ hsum, by simp [hql], ?_, dig_WL _ _, dig_length _ _, ?_⟩, by simp only; omega⟩
              · simp only
                rw [hv2]; exact hs.1
              · simp only
                rw [val_dig, hov, hs.2, Nat.mod_eq_of_lt]
                have := Nat.mod_lt (val x / 2 ^ i) hy1
                have h6 : (4294967296 : Nat) ^ y.length ≤ 4294967296 ^ (y.length + 1) := Nat.pow_le_pow_right (by omega) (by omega)
                omega
            · have hlt2 := mt ordN_ge.2 h
              have hs := div_step0 hy1 hbit hqv hrv (by omega)
              refine ⟨by omega, (i, q, o), weak_lit (by simp [okS, okV, okC, okL, okH, okB, okE, mkV_cons, mkV_nil, mkH_cons, mkH_nil, wsA, ws]) ⟨okB_wc rfl, okB_wc rfl, trivial⟩, ⟨by simp only; omega, hq, hql, hs.1, ho, hoe, by simp only; rw [hov]; exact hs.2⟩, by simp only; omega⟩

end Go.Abs
end

/-
  The second integers: the package's functions.
-/
section
set_option linter.unusedVariables false
set_option linter.unusedSimpArgs false
set_option maxRecDepth 100000
namespace Go.Abs
open Go.Num

variable {P : Program} {Γ : Nat → Spec}

/-- linkwork/linkworkref01.form (14) [.cell 4 2 true] -/
def ac_linkworkref01_form (f_linkworkref01_trim : Nat) : AC := (.seq (.ops false [⟨some 4, none, .alloc [(.lit (.bool false)), .emp]⟩])
 (.fg [0, 1, 4] (.seq (.ops false [⟨some 5, none, .mv (.t 1)⟩, ⟨some 6, none, .callf f_linkworkref01_trim [(.t 5)]⟩, ⟨some 1, none, .mv (.t 6)⟩])
 (.fg [0, 1, 4] (.seq (.seq (.ops false [⟨some 7, none, .mv (.t 1)⟩, ⟨some 8, none, .len (.t 7)⟩, ⟨some 9, none, .bin .eql (.t 8) (.c (.one (.lit (.int .i64 0))))⟩])
 (.fg [0, 1, 4, 9] (.cond (.t 9) (.seq (.ops false [⟨some 10, none, .build [.z [(.lit (.bool false)), .emp]]⟩, ⟨none, none, .st none 2 (.t 4) (.t 10)⟩])
 .ret) .skip)))
 (.fg [0, 1, 4] (.seq (.ops false [⟨some 11, none, .mv (.t 0)⟩, ⟨some 12, none, .mv (.t 1)⟩, ⟨some 13, none, .build [.x 1 (.t 11), .x 1 (.t 12)]⟩, ⟨none, none, .st none 2 (.t 4) (.t 13)⟩])
 .ret)))))))

/-- linkwork/linkworkref01.Sign (9) [.tmp 2] -/
def ac_linkworkref01_Sign (f_linkworkref01_mag f_linkworkref01_neg : Nat) : AC := (.seq (.ops false [⟨some 1, none, .box 2 (.t 0)⟩, ⟨some 2, none, .mv (.c (.one (.lit (.int .i64 0))))⟩])
 (.fg [1] (.seq (.seq (.ops false [⟨some 3, none, .ld none 2 true (.t 1)⟩, ⟨some 4, none, .call f_linkworkref01_mag [(.t 3)]⟩, ⟨some 5, none, .len (.t 4)⟩, ⟨some 6, none, .bin .eql (.t 5) (.c (.one (.lit (.int .i64 0))))⟩])
 (.fg [1, 6] (.cond (.t 6) (.seq (.ops false [⟨some 2, none, .mv (.c (.one (.lit (.int .i64 0))))⟩])
 .ret) .skip)))
 (.fg [1] (.seq (.seq (.ops false [⟨some 7, none, .ld none 2 true (.t 1)⟩, ⟨some 8, none, .call f_linkworkref01_neg [(.t 7)]⟩])
 (.fg [8] (.cond (.t 8) (.seq (.ops false [⟨some 2, none, .mv (.c (.one (.lit (.int .i64 (-1)))))⟩])
 .ret) .skip)))
 (.fg [] (.seq (.ops false [⟨some 2, none, .mv (.c (.one (.lit (.int .i64 1))))⟩])
 .ret)))))))

/-- linkwork/linkworkref01.Cmp (9) [.tmp 4] -/
def ac_linkworkref01_Cmp (f_linkworkref01_Sub f_linkworkref01_Sign : Nat) : AC := (.seq (.ops false [⟨some 2, none, .box 2 (.t 0)⟩, ⟨some 3, none, .box 2 (.t 1)⟩, ⟨some 4, none, .mv (.c (.one (.lit (.int .i64 0))))⟩])
 (.fg [2, 3] (.seq (.ops false [⟨some 5, none, .ld none 2 true (.t 2)⟩, ⟨some 6, none, .ld none 2 true (.t 3)⟩, ⟨some 7, none, .call f_linkworkref01_Sub [(.t 5), (.t 6)]⟩, ⟨some 8, none, .call f_linkworkref01_Sign [(.t 7)]⟩, ⟨some 4, none, .mv (.t 8)⟩])
 .ret)))

/-- linkwork/linkworkref01.Add (38) [.cell 4 2 true] -/
def ac_linkworkref01_Add (f_linkworkref01_mag f_linkworkref01_neg f_linkworkref01_plus f_linkworkref01_form f_linkworkref01_compare f_linkworkref01_minus : Nat) : AC := (.seq (.ops false [⟨some 2, none, .box 2 (.t 0)⟩, ⟨some 3, none, .box 2 (.t 1)⟩, ⟨some 4, none, .alloc [(.lit (.bool false)), .emp]⟩])
 (.fg [2, 3, 4] (.seq (.ops true [⟨some 7, none, .ld none 2 true (.t 2)⟩, ⟨some 8, none, .call f_linkworkref01_mag [(.t 7)]⟩, ⟨some 9, none, .ld none 2 true (.t 3)⟩, ⟨some 10, none, .call f_linkworkref01_mag [(.t 9)]⟩, ⟨some 5, none, .mv (.t 8)⟩, ⟨some 6, none, .mv (.t 10)⟩])
 (.fg [2, 3, 4, 5, 6] (.seq (.seq (.ops true [⟨some 11, none, .ld none 2 true (.t 2)⟩, ⟨some 12, none, .call f_linkworkref01_neg [(.t 11)]⟩, ⟨some 13, none, .ld none 2 true (.t 3)⟩, ⟨some 14, none, .call f_linkworkref01_neg [(.t 13)]⟩, ⟨some 15, none, .binb .eql (.t 12) (.t 14)⟩])
 (.fg [2, 3, 4, 5, 6, 15] (.cond (.t 15) (.seq (.ops false [⟨some 16, none, .ld none 2 true (.t 2)⟩, ⟨some 17, none, .call f_linkworkref01_neg [(.t 16)]⟩, ⟨some 18, none, .mv (.t 5)⟩, ⟨some 19, none, .mv (.t 6)⟩, ⟨some 20, none, .call f_linkworkref01_plus [(.t 18), (.t 19)]⟩, ⟨some 21, none, .call f_linkworkref01_form [(.t 17), (.t 20)]⟩, ⟨none, none, .st none 2 (.t 4) (.t 21)⟩])
 .ret) .skip)))
 (.fg [2, 3, 4, 5, 6] (.seq (.seq (.ops false [⟨some 22, none, .mv (.t 5)⟩, ⟨some 23, none, .mv (.t 6)⟩, ⟨some 24, none, .call f_linkworkref01_compare [(.t 22), (.t 23)]⟩, ⟨some 25, none, .bin .geq (.t 24) (.c (.one (.lit (.int .i64 0))))⟩])
 (.fg [2, 3, 4, 5, 6, 25] (.cond (.t 25) (.seq (.ops false [⟨some 26, none, .ld none 2 true (.t 2)⟩, ⟨some 27, none, .call f_linkworkref01_neg [(.t 26)]⟩, ⟨some 28, none, .mv (.t 5)⟩, ⟨some 29, none, .mv (.t 6)⟩, ⟨some 30, none, .call f_linkworkref01_minus [(.t 28), (.t 29)]⟩, ⟨some 31, none, .call f_linkworkref01_form [(.t 27), (.t 30)]⟩, ⟨none, none, .st none 2 (.t 4) (.t 31)⟩])
 .ret) .skip)))
 (.fg [3, 4, 5, 6] (.seq (.ops false [⟨some 32, none, .ld none 2 true (.t 3)⟩, ⟨some 33, none, .call f_linkworkref01_neg [(.t 32)]⟩, ⟨some 34, none, .mv (.t 6)⟩, ⟨some 35, none, .mv (.t 5)⟩, ⟨some 36, none, .call f_linkworkref01_minus [(.t 34), (.t 35)]⟩, ⟨some 37, none, .call f_linkworkref01_form [(.t 33), (.t 36)]⟩, ⟨none, none, .st none 2 (.t 4) (.t 37)⟩])
 .ret)))))))))

/-- linkwork/linkworkref01.Sub (9) [.cell 4 2 true] -/
def ac_linkworkref01_Sub (f_linkworkref01_Neg f_linkworkref01_Add : Nat) : AC := (.seq (.ops false [⟨some 2, none, .box 2 (.t 0)⟩, ⟨some 3, none, .box 2 (.t 1)⟩, ⟨some 4, none, .alloc [(.lit (.bool false)), .emp]⟩])
 (.fg [2, 3, 4] (.seq (.ops true [⟨some 5, none, .ld none 2 true (.t 2)⟩, ⟨some 6, none, .ld none 2 true (.t 3)⟩, ⟨some 7, none, .call f_linkworkref01_Neg [(.t 6)]⟩, ⟨some 8, none, .call f_linkworkref01_Add [(.t 5), (.t 7)]⟩, ⟨none, none, .st none 2 (.t 4) (.t 8)⟩])
 .ret)))

/-- linkwork/linkworkref01.Gcd (11) [.cell 4 2 true] -/
def ac_linkworkref01_Gcd (f_linkworkref01_mag f_linkworkref01_gcd f_linkworkref01_form : Nat) : AC := (.seq (.ops false [⟨some 2, none, .box 2 (.t 0)⟩, ⟨some 3, none, .box 2 (.t 1)⟩, ⟨some 4, none, .alloc [(.lit (.bool false)), .emp]⟩])
 (.fg [2, 3, 4] (.seq (.ops true [⟨some 5, none, .ld none 2 true (.t 2)⟩, ⟨some 6, none, .call f_linkworkref01_mag [(.t 5)]⟩, ⟨some 7, none, .ld none 2 true (.t 3)⟩, ⟨some 8, none, .call f_linkworkref01_mag [(.t 7)]⟩, ⟨some 9, none, .call f_linkworkref01_gcd [(.t 6), (.t 8)]⟩, ⟨some 10, none, .call f_linkworkref01_form [(.c (.one (.lit (.bool false)))), (.t 9)]⟩, ⟨none, none, .st none 2 (.t 4) (.t 10)⟩])
 .ret)))

/-- linkwork/linkworkref01.Div (45) [.cell 4 2 true, .cell 5 2 true, .tmp 6] -/
def ac_linkworkref01_Div (f_linkworkref01_Sign f_linkworkref01_mag f_linkworkref01_divide f_linkworkref01_neg f_linkworkref01_plus f_linkworkref01_minus f_linkworkref01_form : Nat) : AC := (.seq (.ops false [⟨some 2, none, .box 2 (.t 0)⟩, ⟨some 3, none, .box 2 (.t 1)⟩, ⟨some 4, none, .alloc [(.lit (.bool false)), .emp]⟩, ⟨some 5, none, .alloc [(.lit (.bool false)), .emp]⟩, ⟨some 6, none, .mv (.c (.one (.lit (.int .i64 0))))⟩])
 (.fg [2, 3, 4, 5] (.seq (.seq (.ops false [⟨some 9, none, .ld none 2 true (.t 3)⟩, ⟨some 10, none, .call f_linkworkref01_Sign [(.t 9)]⟩, ⟨some 11, none, .bin .eql (.t 10) (.c (.one (.lit (.int .i64 0))))⟩])
 (.fg [2, 3, 4, 5, 11] (.cond (.t 11) (.seq (.ops false [⟨some 12, none, .build [.z [(.lit (.bool false)), .emp]]⟩, ⟨some 13, none, .build [.z [(.lit (.bool false)), .emp]]⟩, ⟨none, none, .st none 2 (.t 4) (.t 12)⟩, ⟨none, none, .st none 2 (.t 5) (.t 13)⟩, ⟨some 6, none, .mv (.c (.one (.lit (.int .i64 8))))⟩])
 .ret) .skip)))
 (.fg [2, 3, 4, 5] (.seq (.ops true [⟨some 15, none, .ld none 2 true (.t 2)⟩, ⟨some 16, none, .call f_linkworkref01_mag [(.t 15)]⟩, ⟨some 17, none, .ld none 2 true (.t 3)⟩, ⟨some 18, none, .call f_linkworkref01_mag [(.t 17)]⟩, ⟨some 19, none, .call f_linkworkref01_divide [(.t 16), (.t 18)]⟩, ⟨some 14, none, .mv (.t 19)⟩, ⟨some 20, none, .ext 0 (.t 14)⟩, ⟨some 21, none, .ext 1 (.t 14)⟩, ⟨some 7, none, .mv (.t 20)⟩, ⟨some 8, none, .mv (.t 21)⟩])
 (.fg [2, 3, 4, 5, 7, 8] (.seq (.seq (.ops false [⟨some 22, none, .ld none 2 true (.t 2)⟩, ⟨some 23, none, .call f_linkworkref01_neg [(.t 22)]⟩, ⟨some 24, none, .mv (.t 23)⟩, ⟨some 25, some (24, true), .mv (.t 8)⟩, ⟨some 26, some (24, true), .len (.t 25)⟩, ⟨some 27, some (24, true), .bin .gtr (.t 26) (.c (.one (.lit (.int .i64 0))))⟩, ⟨some 28, none, .pick (.t 24) (.t 27) (.c (.one (.lit (.bool false))))⟩])
 (.fg [2, 3, 4, 5, 7, 8, 28] (.cond (.t 28) (.ops true [⟨some 29, none, .mv (.t 7)⟩, ⟨some 30, none, .row 1 [[.x 1 (.c (.one (.lit (.int .u32 1))))]]⟩, ⟨some 31, none, .call f_linkworkref01_plus [(.t 29), (.t 30)]⟩, ⟨some 32, none, .ld none 2 true (.t 3)⟩, ⟨some 33, none, .call f_linkworkref01_mag [(.t 32)]⟩, ⟨some 34, none, .mv (.t 8)⟩, ⟨some 35, none, .call f_linkworkref01_minus [(.t 33), (.t 34)]⟩, ⟨some 7, none, .mv (.t 31)⟩, ⟨some 8, none, .mv (.t 35)⟩]) .skip)))
 (.fg [2, 3, 4, 5, 7, 8] (.seq (.ops true [⟨some 36, none, .ld none 2 true (.t 2)⟩, ⟨some 37, none, .call f_linkworkref01_neg [(.t 36)]⟩, ⟨some 38, none, .ld none 2 true (.t 3)⟩, ⟨some 39, none, .call f_linkworkref01_neg [(.t 38)]⟩, ⟨some 40, none, .binb .neq (.t 37) (.t 39)⟩, ⟨some 41, none, .mv (.t 7)⟩, ⟨some 42, none, .call f_linkworkref01_form [(.t 40), (.t 41)]⟩, ⟨some 43, none, .mv (.t 8)⟩, ⟨some 44, none, .call f_linkworkref01_form [(.c (.one (.lit (.bool false)))), (.t 43)]⟩, ⟨none, none, .st none 2 (.t 4) (.t 42)⟩, ⟨none, none, .st none 2 (.t 5) (.t 44)⟩, ⟨some 6, none, .mv (.c (.one (.lit (.int .i64 0))))⟩])
 .ret)))))))))


theorem form01_sound (hΓ : Holds P Γ) {f ft : Nat} (ht : Γ ft = .fresh 1 tr01_G) (hc : check P f = some (14, (ac_linkworkref01_form ft).strip, [.cell 4 2 true])) : Sound P f (.dat false whole_G) := by
  refine sound_dat hc whole_good hΓ (fun args K hcl hfi hG => ?_)
  match args, hG with
  | [a, m], hG =>
    obtain ⟨b, rfl, hG⟩ := asBool_inv hG
    obtain ⟨l, rfl, hl, hlen, hK⟩ := hG
    refine ⟨by simp, ?_⟩
    simp only [go_sem, ↓reduceIte, Nat.reduceEqDiff, Nat.reduceAdd, Nat.reduceLT, Nat.reduceLeDiff, Int.reduceToNat, Nat.reducePow, Nat.reduceMul, reduceCtorEq, ac_linkworkref01_form, ht]
    refine ⟨hl, hlen, fun _ => ⟨fun h => ?_, fun h => ?_⟩⟩
    · have h0 : val l = 0 := digs_len0.1 h
      have e : zcan (sg b (val l)) = zcan 0 := by rw [h0]; unfold sg; split <;> rfl
      rw [e] at hK
      have e2 : (zcan 0) = (false, []) := by simp [zcan, digs_zero]
      rw [e2] at hK; exact hK
    · rw [← can_sg] at hK
      have e : decide (0 < (digs (val l)).length) = true := by simp only [decide_eq_true_eq]; omega
      rw [e, Bool.and_true] at hK; exact hK

theorem zsign01_sound (hΓ : Holds P Γ) {f fm fn : Nat} (hm : Γ fm = .dat false zmag_G) (hn : Γ fn = .dat true znegp_G) (hc : check P f = some (9, (ac_linkworkref01_Sign fm fn).strip, [.tmp 2])) : Sound P f (.dat true zsign_G) := by
  refine sound_dat hc zsign_good hΓ (fun args K hcl hfi hG => ?_)
  match args, hG with
  | [a], hG =>
    obtain ⟨w, rfl, hw, hK⟩ := hG
    refine ⟨by simp, ?_⟩
    simp only [go_sem, ↓reduceIte, Nat.reduceEqDiff, Nat.reduceAdd, Nat.reduceLT, Nat.reduceLeDiff, Int.reduceToNat, Nat.reducePow, Nat.reduceMul, reduceCtorEq, ac_linkworkref01_Sign, hm, hn, hw]
    intro _
    refine ⟨fun h => ?_, fun h => ⟨fun hb => ?_, fun hb => ?_⟩⟩
    · have h0 : zv w = 0 := zs_eq_zero.1 h
      rw [h0] at hK; exact hK
    · rw [Int.sign_eq_neg_one_of_neg hb] at hK; exact hK
    · have h0 : zv w ≠ 0 := fun e => h (zs_eq_zero.2 e)
      rw [Int.sign_eq_one_of_pos (by omega)] at hK; exact hK

theorem zsub01_sound (hΓ : Holds P Γ) {f fn fa : Nat} (hn : Γ fn = .dat false zneg_G) (ha : Γ fa = .dat false zadd_G) (hc : check P f = some (9, (ac_linkworkref01_Sub fn fa).strip, [.cell 4 2 true])) : Sound P f (.dat false zsub_G) := by
  refine sound_dat hc zsub_good hΓ (fun args K hcl hfi hG => ?_)
  match args, hG with
  | [a, b], hG =>
    obtain ⟨v, rfl, hv, w, rfl, hw, hz, hz', hK⟩ := hG
    refine ⟨by simp, ?_⟩
    simp only [go_sem, ↓reduceIte, Nat.reduceEqDiff, Nat.reduceAdd, Nat.reduceLT, Nat.reduceLeDiff, Int.reduceToNat, Nat.reducePow, Nat.reduceMul, reduceCtorEq, ac_linkworkref01_Sub, hn, ha, hw, hv]
    refine ⟨by omega, hz, by rw [zs_neg]; exact hz', ?_⟩
    rw [← Int.sub_eq_add_neg]; exact hK

theorem zcmp01_sound (hΓ : Holds P Γ) {f fs fg : Nat} (hs : Γ fs = .dat false zsub_G) (hg : Γ fg = .dat true zsign_G) (hc : check P f = some (9, (ac_linkworkref01_Cmp fs fg).strip, [.tmp 4])) : Sound P f (.dat true zcmp01_G) := by
  refine sound_dat hc zcmp01_good hΓ (fun args K hcl hfi hG => ?_)
  match args, hG with
  | [a, b], hG =>
    obtain ⟨v, rfl, hv, w, rfl, hw, hz, hz', hz2, hK⟩ := hG
    refine ⟨by simp, ?_⟩
    simp only [go_sem, ↓reduceIte, Nat.reduceEqDiff, Nat.reduceAdd, Nat.reduceLT, Nat.reduceLeDiff, Int.reduceToNat, Nat.reducePow, Nat.reduceMul, reduceCtorEq, ac_linkworkref01_Cmp, hs, hg, hw, hv]
    refine ⟨hz, hz', ?_⟩
    have e : Int.sign (zv v - zv w) = ordI (zv v) (zv w) := by
      unfold ordI
      split
      · exact Int.sign_eq_neg_one_of_neg (by omega)
      · split
        · exact Int.sign_eq_one_of_pos (by omega)
        · rw [show zv v - zv w = 0 by omega]; rfl
    rw [e]; exact hK

theorem zgcd01_sound (hΓ : Holds P Γ) {f fm fg fw : Nat} (hm : Γ fm = .dat false zmag_G) (hg : Γ fg = .dat false gcd01_G) (hw' : Γ fw = .dat false whole_G) (hc : check P f = some (11, (ac_linkworkref01_Gcd fm fg fw).strip, [.cell 4 2 true])) : Sound P f (.dat false zgcd_G) := by
  refine sound_dat hc zgcd_good hΓ (fun args K hcl hfi hG => ?_)
  match args, hG with
  | [a, b], hG =>
    obtain ⟨v, rfl, hv, w, rfl, hw, hz, hz', hK⟩ := hG
    refine ⟨by simp, ?_⟩
    simp only [go_sem, ↓reduceIte, Nat.reduceEqDiff, Nat.reduceAdd, Nat.reduceLT, Nat.reduceLeDiff, Int.reduceToNat, Nat.reducePow, Nat.reduceMul, reduceCtorEq, ac_linkworkref01_Gcd, hm, hg, hw', hw, hv, val_digs]
    have hle : (digs ((zv v).natAbs.gcd (zv w).natAbs)).length ≤ 17179869184 := by
      rcases Nat.eq_zero_or_pos (zv v).natAbs with h | h
      · rw [h, Nat.gcd_zero_left]; exact hz'
      · exact Nat.le_trans (digs_len_mono (Nat.le_of_dvd h (Nat.gcd_dvd_left _ _))) hz
    exact ⟨digs_WL _, digs_WL _, hz, hz', digs_WL _, by omega, hK⟩

theorem zadd01_sound (hΓ : Holds P Γ) {f fn fm fp fw fc fl : Nat} (hn : Γ fn = .dat true znegp_G) (hm : Γ fm = .dat false zmag_G) (hp : Γ fp = .dat false plus_G) (hw' : Γ fw = .dat false whole_G) (hc' : Γ fc = .dat true cmp01_G) (hl : Γ fl = .dat false less_G) (hc : check P f = some (38, (ac_linkworkref01_Add fm fn fp fw fc fl).strip, [.cell 4 2 true])) : Sound P f (.dat false zadd_G) := by
  refine sound_dat hc zadd_good hΓ (fun args K hcl hfi hG => ?_)
  match args, hG with
  | [a, b], hG =>
    obtain ⟨v, rfl, hv, w, rfl, hw, hz, hz', hK⟩ := hG
    refine ⟨by simp, ?_⟩
    simp only [go_sem, ↓reduceIte, Nat.reduceEqDiff, Nat.reduceAdd, Nat.reduceLT, Nat.reduceLeDiff, Int.reduceToNat, Nat.reducePow, Nat.reduceMul, reduceCtorEq, ac_linkworkref01_Add, hn, hm, hp, hw', hc', hl, hw, hv]
    simp only [val_digs]
    have hsz := zs_add (zv v) (zv w)
    refine ⟨fun h => ⟨digs_WL _, digs_WL _, hz, hz', digs_WL _, ?_, ?_⟩, fun h => ⟨digs_WL _, digs_WL _, fun ho => ⟨digs_WL _, digs_WL _, by unfold zs at hz; omega, ?_, digs_WL _, ?_, ?_⟩, fun ho => ⟨digs_WL _, digs_WL _, by unfold zs at hz'; omega, ?_, digs_WL _, ?_, ?_⟩⟩⟩
    · have e := sg_add_same (of_decide_beq h)
      rw [show (zv v).natAbs + (zv w).natAbs = (zv v + zv w).natAbs by have := of_decide_beq h; omega]
      unfold zs at *; omega
    · rw [sg_add_same (of_decide_beq h)]; exact hK
    · exact (ordN_ge.1 ho)
    · have := digs_len_mono (Nat.sub_le (zv v).natAbs (zv w).natAbs); unfold zs at *; omega
    · have h1 := ordN_ge.1 ho
      rw [sg_sub (of_decide_bne h) h1]; exact hK
    · have := mt ordN_ge.2 ho; omega
    · have := digs_len_mono (Nat.sub_le (zv w).natAbs (zv v).natAbs); unfold zs at *; omega
    · have h1 := mt ordN_ge.2 ho
      rw [sg_sub (fun e => of_decide_bne h e.symm) (by omega), Int.add_comm]; exact hK

theorem zdiv01_sound (hΓ : Holds P Γ) {f fs fn fm fp fw fd fl : Nat} (hs : Γ fs = .dat true zsign_G) (hn : Γ fn = .dat true znegp_G) (hm : Γ fm = .dat false zmag_G) (hp : Γ fp = .dat false plus_G) (hw' : Γ fw = .dat false whole_G) (hd : Γ fd = .dat false divide_G) (hl : Γ fl = .dat false less_G) (hc : check P f = some (45, (ac_linkworkref01_Div fs fm fd fn fp fl fw).strip, [.cell 4 2 true, .cell 5 2 true, .tmp 6])) : Sound P f (.dat false zdiv01_G) := by
  refine sound_dat hc zdiv01_good hΓ (fun args K hcl hfi hG => ?_)
  match args, hG with
  | [a, b], hG =>
    obtain ⟨v, rfl, hv, w, rfl, hw, hz, hz', h0, hK⟩ := hG
    refine ⟨by simp, ?_⟩
    simp only [go_sem, ↓reduceIte, Nat.reduceEqDiff, Nat.reduceAdd, Nat.reduceLT, Nat.reduceLeDiff, Int.reduceToNat, Nat.reducePow, Nat.reduceMul, reduceCtorEq, ac_linkworkref01_Div, hs, hn, hm, hp, hw', hd, hl, hw, hv]
    simp only [val_digs]
    have hne : ¬ (digs (zv w).natAbs).length = 0 := fun e => h0 (zs_eq_zero.1 e)
    refine ⟨fun e => absurd (Int.sign_eq_zero_iff_zero.1 e) h0, fun _ => ⟨digs_WL _, digs_WL _, digs_NZ _, digs_NZ _, fun e => hne (by rw [e]; rfl), hz, hz', ?_⟩⟩
    have hq : (digs ((zv v).natAbs / (zv w).natAbs)).length ≤ 17179869184 := Nat.le_trans (digs_len_mono (Nat.div_le_self _ _)) hz
    have hr : (digs ((zv v).natAbs % (zv w).natAbs)).length ≤ 17179869184 := Nat.le_trans (digs_len_mono (Nat.mod_le _ _)) hz
    have hz'' : (digs (zv w).natAbs).length ≤ 17179869184 := hz'
    have hlt := Nat.mod_lt (zv v).natAbs (show 0 < (zv w).natAbs by omega)
    have hfin : (0 ≤ zv v ∨ (zv v).natAbs % (zv w).natAbs = 0) → K (AV.tup
        [AV.agg [zb (zcan (sg (!(decide (zv v < 0) == decide (zv w < 0))) ((zv v).natAbs / (zv w).natAbs))), zm (zcan (sg (!(decide (zv v < 0) == decide (zv w < 0))) ((zv v).natAbs / (zv w).natAbs)))],
          AV.agg [zb (zcan (sg false ((zv v).natAbs % (zv w).natAbs))), zm (zcan (sg false ((zv v).natAbs % (zv w).natAbs)))], AV.one (C.lit (Value.int IntKind.i64 0))]) := by
      intro h
      obtain ⟨e1, e2⟩ := ediv_pos h0 h
      have e1' : sg (!(decide (zv v < 0) == decide (zv w < 0))) ((zv v).natAbs / (zv w).natAbs) = zv v / zv w := e1
      have e2' : sg false ((zv v).natAbs % (zv w).natAbs) = zv v % zv w := e2
      rw [e1', e2']; exact hK
    refine ⟨fun hneg _ => ⟨fun hp => ⟨digs_WL _, (onWs_1 _ 1).mpr ⟨WL_cons.2 ⟨by decide, WL_nil⟩, hq, by decide, digs_WL _, digs_WL _, by omega, by omega, digs_WL _, ?_, digs_WL _, ?_, ?_⟩⟩, fun hp => ⟨digs_WL _, by omega, digs_WL _, by omega, hfin (.inr ?_)⟩⟩, fun hneg => ⟨digs_WL _, by omega, digs_WL _, by omega, hfin (.inl (by omega))⟩⟩
    · have hv1 : val [1] = 1 := rfl
      rw [hv1]
      have h1 : zs 1 ≤ 2 := zs_of (by decide)
      have := zs_add (((zv v).natAbs / (zv w).natAbs : Nat) : Int) 1
      have e : (((zv v).natAbs / (zv w).natAbs : Nat) : Int) + 1 = (((zv v).natAbs / (zv w).natAbs + 1 : Nat) : Int) := by omega
      rw [e] at this
      have h3 : zs (((zv v).natAbs / (zv w).natAbs : Nat) : Int) = (digs ((zv v).natAbs / (zv w).natAbs)).length := rfl
      have h4 : zs (((zv v).natAbs / (zv w).natAbs + 1 : Nat) : Int) = (digs ((zv v).natAbs / (zv w).natAbs + 1)).length := rfl
      rw [h3, h4] at this
      omega
    · have := digs_len_mono (Nat.sub_le (zv w).natAbs ((zv v).natAbs % (zv w).natAbs)); omega
    · have hv1 : val [1] = 1 := rfl
      rw [hv1]
      have hne' : (zv v).natAbs % (zv w).natAbs ≠ 0 := by
        intro e; rw [e, digs_zero] at hp; simp at hp
      obtain ⟨e1, e2⟩ := ediv_neg h0 hneg hne'
      have e1' : sg (!(decide (zv v < 0) == decide (zv w < 0))) ((zv v).natAbs / (zv w).natAbs + 1) = zv v / zv w := e1
      have e2' : sg false ((zv w).natAbs - (zv v).natAbs % (zv w).natAbs) = zv v % zv w := e2
      rw [e1', e2']; exact hK
    · have : digs ((zv v).natAbs % (zv w).natAbs) = [] := List.eq_nil_of_length_eq_zero (by omega)
      exact digs_eq_nil.1 this

end Go.Abs
end
