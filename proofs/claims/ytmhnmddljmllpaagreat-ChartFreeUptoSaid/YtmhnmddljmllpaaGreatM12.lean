/-
  Parts of the proof, merged: RefC, RefD, RefE, RefF, TrkB, TrkA, TrkC, TrkG, TrkF.
-/
import Derived.Test.YtmhnmddljmllpaaGreatM11
set_option linter.unusedVariables false
set_option linter.unusedSimpArgs false
section
set_option linter.unusedVariables false
set_option linter.unusedSimpArgs false
set_option maxRecDepth 100000
namespace Go.Abs
open Go.Num
variable {P : Program} {Γ : Nat → Spec}
def ac_linkworkref01_cut : AC := (.seq (.ops false [.m 2 (.c (.one .emp))])
 (.fg [0] (.seq (.block 0 (.loop (.seq (.seq (.ops false [.m 3 (.t 0), .u 4 (.len (.t 3)), .u 5 (.bin .gtr (.t 4) (.i 0)), .m 6 (.t 5), .w 7 6 true (.mv (.t 0)), .w 8 6 true (.mv (.t 0)), .w 9 6 true (.len (.t 8)), .w 10 6 true (.bin .sub (.t 9) (.i 1)), .w 11 6 true (.idx 1 (.t 7) (.t 10)), .w 12 6 true (.ld none 1 false (.t 11)), .w 13 6 true (.bin .eql (.t 12) (.c (.one (.lit (.int .u32 0))))), .u 14 (.pick (.t 6) (.t 13) .fa)])
 (.fg [0, 14] (.cond (.t 14) .skip (.exit 0))))
 (.fg [0] (.block 1 (.ops false [.m 15 (.t 0), .m 16 (.t 0), .u 17 (.len (.t 16)), .u 18 (.bin .sub (.t 17) (.i 1)), .u 19 (.sl 1 (.t 15) none (some (.t 18))), .m 0 (.t 19)]))))))
 (.fg [0] (.seq (.ops false [.m 20 (.t 0), .m 2 (.t 20)])
 .ret)))))
def ac_linkworkref01_halve (f0 f1 : Nat) : AC := (.seq (.ops false [.m 2 (.c (.one .emp))])
 (.fg [0] (.seq (.seq (.ops false [.m 4 (.t 0), .u 5 (.len (.t 4)), .m 6 (.i 0)])
 (.fg [0, 5, 6] (.block 0 (.loop (.seq (.ops false [.u 7 (.bin .lss (.t 6) (.t 5))])
 (.fg [0, 5, 6, 7] (.seq (.cond (.t 7) .skip (.exit 0))
 (.fg [0, 5, 6] (.seq (.block 1 (.seq (.ops false [.m 8 (.t 6), .m 3 (.t 8)])
 (.fg [0, 3, 5, 6] (.ops false [.m 9 (.t 0), .m 10 (.t 3), .m 11 (.t 0), .m 12 (.t 3), .u 13 (.call f0 [(.t 11), (.t 12)]), .u 14 (.bin .shr (.t 13) (.c (.one (.lit (.int .u64 1))))), .m 15 (.t 0), .m 16 (.t 3), .u 17 (.bin .add (.t 16) (.i 1)), .u 18 (.call f0 [(.t 15), (.t 17)]), .u 19 (.bin .shl (.t 18) (.c (.one (.lit (.int .u64 31))))), .u 20 (.bin .or (.t 14) (.t 19)), .u 21 (.conv .u32 (.t 20)), .u 22 (.idx 1 (.t 9) (.t 10)), .n (.st none 1 (.t 22) (.t 21))]))))
 (.fg [0, 5, 6] (.ops false [.u 23 (.bin .add (.t 6) (.i 1)), .m 6 (.t 23)])))))))))))
 (.fg [0] (.seq (.ops false [.m 24 (.t 0), .u 25 (.call f1 [(.t 24)]), .m 2 (.t 25)])
 .ret)))))
def ac_linkworkref01_take (f0 : Nat) : AC := (.seq (.ops false [.m 4 (.c (.one (.lit (.int .u64 0))))])
 (.fg [0, 1, 4] (.seq (.ops false [.m 7 (.t 0), .u 8 (.len (.t 7)), .m 9 (.i 0)])
 (.fg [0, 1, 4, 8, 9] (.block 0 (.loop (.seq (.ops false [.u 10 (.bin .lss (.t 9) (.t 8))])
 (.fg [0, 1, 4, 8, 9, 10] (.seq (.cond (.t 10) .skip (.exit 0))
 (.fg [0, 1, 4, 8, 9] (.seq (.block 1 (.seq (.ops false [.m 11 (.t 9), .m 5 (.t 11)])
 (.fg [0, 1, 4, 5, 8, 9] (.seq (.ops false [.m 12 (.t 0), .m 13 (.t 5), .u 14 (.call f0 [(.t 12), (.t 13)]), .u 15 (.bin .add (.c (.one (.lit (.int .u64 4294967296)))) (.t 14)), .m 16 (.t 1), .m 17 (.t 5), .u 18 (.call f0 [(.t 16), (.t 17)]), .u 19 (.bin .sub (.t 15) (.t 18)), .m 20 (.t 4), .u 21 (.bin .sub (.t 19) (.t 20)), .m 6 (.t 21)])
 (.fg [0, 1, 5, 6, 8, 9] (.ops false [.m 22 (.t 0), .m 23 (.t 5), .m 24 (.t 6), .u 25 (.conv .u32 (.t 24)), .m 26 (.t 6), .u 27 (.bin .shr (.t 26) (.c (.one (.lit (.int .u64 32))))), .u 28 (.bin .sub (.c (.one (.lit (.int .u64 1)))) (.t 27)), .u 29 (.idx 1 (.t 22) (.t 23)), .n (.st none 1 (.t 29) (.t 25)), .m 4 (.t 28)]))))))
 (.fg [0, 1, 4, 8, 9] (.ops false [.u 30 (.bin .add (.t 9) (.i 1)), .m 9 (.t 30)])))))))))))))
theorem cut_sound (hΓ : Holds P Γ) {f : Nat} (hc : check P f = some (21, ac_linkworkref01_cut.strip, [.tmp 2])) : Sound P f (.own cut_G) := by
 refine sound_own hc hΓ (fun d args h K hG => ?_)
 unfold cut_G at hG
 split at hG
 case h_2 => exact hG.elim
 rename_i r ver len
 obtain ⟨l, post, rfl, hr, hl, hll, hK⟩ := hG
 refine ⟨[r], [⟨(l ++ post).map wc, 1, true⟩], [.one (.own 1048576 ver 1 0 l.length)], by simp, rfl, ?_, ?_, ?_, fun hfi => ⟨by simp, ?_⟩⟩
 ·intro i r' b h1 h2
  cases i with
  | zero => simp only [List.getElem?_cons_zero, Option.some.injEq] at h1 h2; subst h1 h2; exact ⟨by rw [hr], rfl, of_eq_true (clean_ws _)⟩
  | succ i => simp at h1
 ·simp [exA, exC, exB, nameOf, pinA, wsA, ws]
 ·intro a ha
  simp only [List.mem_cons, List.not_mem_nil, or_false] at ha
  subst ha
  simp [pasA, pasC, pasB, nameOf, pinA]
 simp only [go_sem, ac_linkworkref01_cut, hr]
 refine wpA_loop (fun n : Nat => ⟨mkV [(0, .one (.own 1048576 ver 1 0 n))], mkH [(1048576, ⟨ver, some ⟨(l ++ post).map wc, 1, true⟩⟩)]⟩)
  (fun n => n ≤ l.length ∧ val (l.take n) = val l) id l.length ?_ ?_ ?_
 ·exact weak_lit (by simp [okS, okV, okC, okL, okH, okB, okE, mkV_cons, mkV_nil, mkH_cons, mkH_nil, wsA, ws]) (okH_1 (by simp))
 ·simp
 ·rintro n ⟨hn, ht⟩
  simp only [go_sem, hr]
  rw [show ((n : Int) - 1).toNat = n - 1 by omega]
  refine fun _ => ⟨fun h => fun _ => ⟨by omega, by omega, by simp; omega, ?_, ?_⟩, fun h => ?_⟩
  ·rw [get_app (by omega)]
   refine fun h0 _ => ⟨by omega, by omega, by omega, n - 1, weak_lit (by simp [okS, okV, okC, okL, okH, okB, okE, mkV_cons, mkV_nil, mkH_cons, mkH_nil, wsA, ws]) (okH_1 rfl), ⟨by omega, ?_⟩, by simp only [id]; omega⟩
   have := take_succ l (n - 1)
   rw [show n - 1 + 1 = n by omega, h0, Nat.mul_zero, Nat.add_zero] at this
   rw [← this]; exact ht
  ·rw [get_app (by omega)]
   intro h0
   have := digs_val (WL_take hl n) (NZ_take h hn h0)
   rw [ht] at this
   have h2 := hK (l.drop n ++ post)
   rw [this, List.length_take, Nat.min_eq_left hn, ← List.append_assoc, List.take_append_drop] at h2
   exact h2
  ·have h1 : n = 0 := by omega
   subst h1
   have : val l = 0 := by rw [← ht]; simp [val]
   have h2 := hK (l ++ post)
   rw [this, digs_zero] at h2
   exact h2
theorem halve_sound (hΓ : Holds P Γ) {f fw fc : Nat} (hw : Γ fw = .dat true word_G) (hc' : Γ fc = .own cut_G) (hc : check P f = some (26, (ac_linkworkref01_halve fw fc).strip, [.tmp 2])) : Sound P f (.own halve_G) := by
 refine sound_own hc hΓ (fun d args h K hG => ?_)
 unfold halve_G at hG
 split at hG
 case h_2 => exact hG.elim
 rename_i r ver len
 obtain ⟨l, post, rfl, hr, hl, hll, hK⟩ := hG
 refine ⟨[r], [⟨(l ++ post).map wc, 1, true⟩], [.one (.own 1048576 ver 1 0 l.length)], by simp, rfl, ?_, ?_, ?_, fun hfi => ⟨by simp, ?_⟩⟩
 ·intro i r' b h1 h2
  cases i with
  | zero => simp only [List.getElem?_cons_zero, Option.some.injEq] at h1 h2; subst h1 h2; exact ⟨by rw [hr], rfl, of_eq_true (clean_ws _)⟩
  | succ i => simp at h1
 ·simp [exA, exC, exB, nameOf, pinA, wsA, ws]
 ·intro a ha
  simp only [List.mem_cons, List.not_mem_nil, or_false] at ha
  subst ha
  simp [pasA, pasC, pasB, nameOf, pinA]
 simp only [go_sem, ac_linkworkref01_halve, hr]
 intro h1
 refine wpA_loop (fun o : List Nat => ⟨mkV [(0, .one (.own 1048576 ver 1 0 l.length)), (5, .one (.lit (.int .i64 l.length))), (6, .one (.lit (.int .i64 o.length)))], mkH [(1048576, ⟨ver, some ⟨(o ++ (l.drop o.length ++ post)).map wc, 1, true⟩⟩)]⟩)
  (fun o => o.length ≤ l.length ∧ WL o ∧ val o = val l / 2 % 4294967296 ^ o.length) (fun o => l.length - o.length) [] ?_ ?_ ?_
 ·exact weak_lit (by simp [okS, okV, okC, okL, okH, okB, okE, mkV_cons, mkV_nil, mkH_cons, mkH_nil, wsA, ws]) (okH_1 (by simp))
 ·simp [WL_nil, val]; omega
 ·rintro o ⟨hoN, ho, hval⟩
  have hw2 := WL_od ho hl
  simp only [go_sem, hr, hw, hc', len_od hoN, take_od hoN, Nat.le_add_right, get_od, get_od0]
  refine ⟨fun hlt => ⟨hw2, by decide, by omega, hw2, by decide, ⟨rfl, by have := WL_getD hl o.length; omega, by omega⟩, hlt, by omega, by omega, ?_⟩, fun hge => ?_⟩
  ·have hd := halve_or (WL_getD hl o.length) (WL_getD hl (o.length + 1))
   rw [down_step hl (by omega), Nat.pow_one] at hd
   rw [hd, set_od _ hlt]
   generalize hv : val l / 2 / 4294967296 ^ o.length % 4294967296 = v
   have hvB : v < 4294967296 := by rw [← hv]; exact Nat.mod_lt _ (by omega)
   refine ⟨o ++ [v], weak_lit (by simp [okS, okV, okC, okL, okH, okB, okE, mkV_cons, mkV_nil, mkH_cons, mkH_nil, wsA, ws]) (okH_1 rfl), ⟨by simp; omega, WL_append.2 ⟨ho, WL_cons.2 ⟨hvB, WL_nil⟩⟩, ?_⟩, by simp; omega⟩
   rw [val_append, List.length_append, List.length_singleton, mod_pow_succ, hv, ← hval]; simp [val]
  ·have e : o.length = l.length := by omega
   have hlt : val l / 2 < 4294967296 ^ l.length := Nat.lt_of_le_of_lt (Nat.div_le_self _ _) (val_lt hl)
   rw [e, Nat.mod_eq_of_lt hlt] at hval
   rw [List.drop_of_length_le (by omega), List.nil_append, ← e]
   refine ⟨o, post, rfl, by simp [mkH_cons], ho, by omega, fun post' => ?_⟩
   simp only [go_sem]
   rw [hval]
   exact hK post'
theorem take_sound (hΓ : Holds P Γ) {f fw : Nat} (hw : Γ fw = .dat true word_G) (hc : check P f = some (31, (ac_linkworkref01_take fw).strip, [])) : Sound P f (.own take_G) := by
 refine sound_own hc hΓ (fun d args h K hG => ?_)
 unfold take_G at hG
 split at hG
 case h_3 => exact hG.elim
 case h_2 =>
  rename_i r ver len b _
  obtain ⟨y, rfl, hy, l, post, rfl, hr, hl, hll, hle, hK⟩ := hG
  refine ⟨[r], [⟨(l ++ post).map wc, 1, true⟩], [.one (.own 1048576 ver 1 0 l.length), wsA y], by simp, rfl, ?_, ?_, ?_, fun hfi => ⟨by simp, ?_⟩⟩
  ·intro i r' b h1 h2
   cases i with
   | zero => simp only [List.getElem?_cons_zero, Option.some.injEq] at h1 h2; subst h1 h2; exact ⟨by rw [hr], rfl, of_eq_true (clean_ws _)⟩
   | succ i => simp at h1
  ·simp [exA, exC, exB, nameOf, pinA, wsA, ws]
  ·intro a ha
   simp only [List.mem_cons, List.not_mem_nil, or_false] at ha
   rcases ha with rfl | rfl
   ·simp [pasA, pasC, pasB, nameOf, pinA]
   ·exact .slice _ (of_eq_true (clean_ws _))
  simp only [go_sem, ac_linkworkref01_take, hr]
  intro h1
  refine wpA_loop (fun p : List Nat × Nat => ⟨mkV [(0, .one (.own 1048576 ver 1 0 l.length)), (1, wsA y), (4, .one (.lit (.int .u64 p.2))), (8, .one (.lit (.int .i64 l.length))), (9, .one (.lit (.int .i64 p.1.length)))],
    mkH [(1048576, ⟨ver, some ⟨(p.1 ++ (l.drop p.1.length ++ post)).map wc, 1, true⟩⟩)]⟩)
   (fun p => p.1.length ≤ l.length ∧ WL p.1 ∧ p.2 ≤ 1 ∧ val p.1 + val (y.take p.1.length) = val (l.take p.1.length) + 4294967296 ^ p.1.length * p.2) (fun p => l.length - p.1.length) ([], 0) ?_ ?_ ?_
  ·exact weak_lit (by simp [okS, okV, okC, okL, okH, okB, okE, mkV_cons, mkV_nil, mkH_cons, mkH_nil, wsA, ws]) (okH_1 (by simp))
  ·simp [WL_nil, val]
  ·rintro ⟨o, c⟩ ⟨hoN, ho, hc1, hval⟩
   simp only at hoN ho hc1 hval
   have hw2 := WL_od ho hl
   simp only [go_sem, hr, hw, len_od hoN, take_od hoN, Nat.le_add_right, get_od, get_od0]
   refine ⟨fun hlt => ?_, fun hge => ?_⟩
   ·obtain ⟨s, e1, e2, e3, e4⟩ := minus_e (WL_getD hl o.length) (WL_getD hy o.length) hc1
    simp only [e1, e2, set_wc', set_od _ hlt]
    refine ⟨hw2, hy, ⟨by omega, by decide, by decide⟩, hlt, by omega, by omega, (o ++ [s % 4294967296], 1 - s / 4294967296), weak_lit (by simp [okS, okV, okC, okL, okH, okB, okE, mkV_cons, mkV_nil, mkH_cons, mkH_nil, wsA, ws, e2]) (by first | exact okH_1' rfl | exact ⟨okB_wc' rfl, okB_wc rfl, trivial⟩), ⟨by simp; omega, WL_append.2 ⟨ho, WL_cons.2 ⟨Nat.mod_lt _ (by omega), WL_nil⟩⟩, e4, ?_⟩, by simp; omega⟩
    simp only [List.length_append, List.length_cons, List.length_nil, Nat.zero_add, take_succ, val_append, val_cons, val_nil, Nat.mul_zero, Nat.add_zero, Nat.pow_succ]
    exact less_aux hval e3
   ·have e : o.length = l.length := by omega
    have hv := less_end ho hl e hle hval
    have hd := dig_val ho
    rw [hv, e] at hd
    rw [hd] at hK
    rw [List.drop_of_length_le (by omega), List.nil_append]
    exact hK
 case h_1 =>
  rename_i r ver len r2 ver2 len2
  obtain ⟨l, post, y, posty, hne, rfl, hr, hl, hll, rfl, hr2, hy, hle, hK⟩ := hG
  refine ⟨[r, r2], [⟨(l ++ post).map wc, 1, true⟩, ⟨(y ++ posty).map wc, 1, true⟩], [.one (.own 1048576 ver 1 0 l.length), .one (.own 1048577 ver2 1 0 y.length)], by simp [hne], rfl, ?_, ?_, ?_, fun hfi => ⟨by simp, ?_⟩⟩
  ·intro i r' b h1 h2
   cases i with
   | zero => simp only [List.getElem?_cons_zero, Option.some.injEq] at h1 h2; subst h1 h2; exact ⟨by rw [hr], rfl, of_eq_true (clean_ws _)⟩
   | succ i =>
    cases i with
    | zero => simp only [List.getElem?_cons_zero, List.getElem?_cons_succ, Option.some.injEq] at h1 h2; subst h1 h2; exact ⟨by rw [hr2], rfl, of_eq_true (clean_ws _)⟩
    | succ i => simp at h1
  ·simp [exA, exC, exB, nameOf, pinA, wsA, ws]
  ·intro a ha
   simp only [List.mem_cons, List.not_mem_nil, or_false] at ha
   rcases ha with rfl | rfl
   ·simp [pasA, pasC, pasB, nameOf, pinA]
   ·simp [pasA, pasC, pasB, nameOf, pinA]
  simp only [go_sem, ac_linkworkref01_take, hr, hr2]
  intro h1
  refine wpA_loop (fun p : List Nat × Nat => ⟨mkV [(0, .one (.own 1048576 ver 1 0 l.length)), (1, .one (.own 1048577 ver2 1 0 y.length)), (4, .one (.lit (.int .u64 p.2))), (8, .one (.lit (.int .i64 l.length))), (9, .one (.lit (.int .i64 p.1.length)))],
    mkH [(1048576, ⟨ver, some ⟨(p.1 ++ (l.drop p.1.length ++ post)).map wc, 1, true⟩⟩), (1048577, ⟨ver2, some ⟨(y ++ posty).map wc, 1, true⟩⟩)]⟩)
   (fun p => p.1.length ≤ l.length ∧ WL p.1 ∧ p.2 ≤ 1 ∧ val p.1 + val (y.take p.1.length) = val (l.take p.1.length) + 4294967296 ^ p.1.length * p.2) (fun p => l.length - p.1.length) ([], 0) ?_ ?_ ?_
  ·exact weak_lit (by simp [okS, okV, okC, okL, okH, okB, okE, mkV_cons, mkV_nil, mkH_cons, mkH_nil, wsA, ws]) ⟨okB_wc (by simp), okB_wc rfl, trivial⟩
  ·simp [WL_nil, val]
  ·rintro ⟨o, c⟩ ⟨hoN, ho, hc1, hval⟩
   simp only at hoN ho hc1 hval
   have hw2 := WL_od ho hl
   simp only [go_sem, hr, hr2, hw, len_od hoN, take_od hoN, Nat.le_add_right, get_od, get_od0, List.length_append, List.take_left]
   refine ⟨fun hlt => ?_, fun hge => ?_⟩
   ·obtain ⟨s, e1, e2, e3, e4⟩ := minus_e (WL_getD hl o.length) (WL_getD hy o.length) hc1
    simp only [e1, e2, set_wc', set_od _ hlt]
    refine ⟨hw2, hy, ⟨by omega, by decide, by decide⟩, hlt, by omega, by omega, (o ++ [s % 4294967296], 1 - s / 4294967296), weak_lit (by simp [okS, okV, okC, okL, okH, okB, okE, mkV_cons, mkV_nil, mkH_cons, mkH_nil, wsA, ws, e2]) (by first | exact okH_1' rfl | exact ⟨okB_wc' rfl, okB_wc rfl, trivial⟩), ⟨by simp; omega, WL_append.2 ⟨ho, WL_cons.2 ⟨Nat.mod_lt _ (by omega), WL_nil⟩⟩, e4, ?_⟩, by simp; omega⟩
    simp only [List.length_append, List.length_cons, List.length_nil, Nat.zero_add, take_succ, val_append, val_cons, val_nil, Nat.mul_zero, Nat.add_zero, Nat.pow_succ]
    exact less_aux hval e3
   ·have e : o.length = l.length := by omega
    have hv := less_end ho hl e hle hval
    have hd := dig_val ho
    rw [hv, e] at hd
    rw [hd] at hK
    rw [List.drop_of_length_le (by omega), List.nil_append]
    exact hK
end Go.Abs
end
section
set_option linter.unusedVariables false
set_option linter.unusedSimpArgs false
set_option maxRecDepth 100000
namespace Go.Abs
open Go.Num
variable {P : Program} {Γ : Nat → Spec}
def ac_linkworkref01_gcd (f0 f1 f2 f3 f4 f5 : Nat) : AC := (.seq (.ops false [.m 4 (.c (.one .emp))])
 (.fg [0, 1] (.seq (.ops false [.m 6 (.t 0), .u 7 (.callf f0 [(.t 6)]), .m 8 (.t 1), .u 9 (.callf f0 [(.t 8)]), .m 0 (.t 7), .m 1 (.t 9)])
 (.fg [0, 1] (.seq (.seq (.ops false [.m 10 (.t 0), .u 11 (.len (.t 10)), .u 12 (.bin .eql (.t 11) (.i 0))])
 (.fg [0, 1, 12] (.cond (.t 12) (.seq (.ops false [.m 13 (.t 1), .m 4 (.t 13)])
 .ret) .skip)))
 (.fg [0, 1] (.seq (.seq (.ops false [.m 14 (.t 1), .u 15 (.len (.t 14)), .u 16 (.bin .eql (.t 15) (.i 0))])
 (.fg [0, 1, 16] (.cond (.t 16) (.seq (.ops false [.m 17 (.t 0), .m 4 (.t 17)])
 .ret) .skip)))
 (.fg [0, 1] (.seq (.ops false [.m 5 (.i 0)])
 (.fg [0, 1, 5] (.seq (.block 0 (.loop (.seq (.seq (.ops false [.m 18 (.t 0), .u 19 (.idx 1 (.t 18) (.i 0)), .u 20 (.ld none 1 false (.t 19)), .u 21 (.bin .and (.t 20) (.c (.one (.lit (.int .u32 1))))), .u 22 (.bin .eql (.t 21) (.c (.one (.lit (.int .u32 0))))), .m 23 (.t 22), .w 24 23 true (.mv (.t 1)), .w 25 23 true (.idx 1 (.t 24) (.i 0)), .w 26 23 true (.ld none 1 false (.t 25)), .w 27 23 true (.bin .and (.t 26) (.c (.one (.lit (.int .u32 1))))), .w 28 23 true (.bin .eql (.t 27) (.c (.one (.lit (.int .u32 0))))), .u 29 (.pick (.t 23) (.t 28) .fa)])
 (.fg [0, 1, 5, 29] (.cond (.t 29) .skip (.exit 0))))
 (.fg [0, 1, 5] (.block 1 (.seq (.ops false [.m 30 (.t 0), .u 31 (.call f1 [(.t 30)]), .m 32 (.t 1), .u 33 (.call f1 [(.t 32)]), .m 0 (.t 31), .m 1 (.t 33)])
 (.fg [0, 1, 5] (.ops false [.m 34 (.t 5), .u 35 (.bin .add (.t 34) (.i 1)), .m 5 (.t 35)]))))))))
 (.fg [0, 1, 5] (.seq (.block 2 (.loop (.seq (.seq (.ops false [.m 36 (.t 0), .u 37 (.len (.t 36)), .u 38 (.bin .gtr (.t 37) (.i 0))])
 (.fg [0, 1, 5, 38] (.cond (.t 38) .skip (.exit 2))))
 (.fg [0, 1, 5] (.block 3 (.seq (.block 4 (.loop (.seq (.seq (.ops false [.m 39 (.t 0), .u 40 (.idx 1 (.t 39) (.i 0)), .u 41 (.ld none 1 false (.t 40)), .u 42 (.bin .and (.t 41) (.c (.one (.lit (.int .u32 1))))), .u 43 (.bin .eql (.t 42) (.c (.one (.lit (.int .u32 0)))))])
 (.fg [0, 1, 5, 43] (.cond (.t 43) .skip (.exit 4))))
 (.fg [0, 1, 5] (.block 5 (.ops false [.m 44 (.t 0), .u 45 (.call f1 [(.t 44)]), .m 0 (.t 45)]))))))
 (.fg [0, 1, 5] (.seq (.block 6 (.loop (.seq (.seq (.ops false [.m 46 (.t 1), .u 47 (.idx 1 (.t 46) (.i 0)), .u 48 (.ld none 1 false (.t 47)), .u 49 (.bin .and (.t 48) (.c (.one (.lit (.int .u32 1))))), .u 50 (.bin .eql (.t 49) (.c (.one (.lit (.int .u32 0)))))])
 (.fg [0, 1, 5, 50] (.cond (.t 50) .skip (.exit 6))))
 (.fg [0, 1, 5] (.block 7 (.ops false [.m 51 (.t 1), .u 52 (.call f1 [(.t 51)]), .m 1 (.t 52)]))))))
 (.fg [0, 1, 5] (.seq (.seq (.ops false [.m 53 (.t 0), .m 54 (.t 1), .u 55 (.call f2 [(.t 53), (.t 54)]), .u 56 (.bin .lss (.t 55) (.i 0))])
 (.fg [0, 1, 5, 56] (.cond (.t 56) (.ops false [.m 57 (.t 1), .m 58 (.t 0), .m 0 (.t 57), .m 1 (.t 58)]) .skip)))
 (.fg [0, 1, 5] (.seq (.ops false [.m 59 (.t 0), .m 60 (.t 1), .u 61 (.call f3 [(.t 59), (.t 60)])])
 (.fg [0, 1, 5] (.ops false [.m 62 (.t 0), .u 63 (.call f4 [(.t 62)]), .m 0 (.t 63)]))))))))))))))
 (.fg [1, 5] (.seq (.seq (.ops false [.m 64 (.t 5), .m 65 (.i 0)])
 (.fg [1, 64, 65] (.fz [1] (.block 8 (.loop (.seq (.ops false [.u 66 (.bin .lss (.t 65) (.t 64))])
 (.fg [1, 64, 65, 66] (.seq (.cond (.t 66) .skip (.exit 8))
 (.fg [1, 64, 65] (.seq (.block 9 (.ops false [.m 67 (.t 1), .m 68 (.t 1), .u 69 (.call f5 [(.t 67), (.t 68)]), .m 1 (.t 69)]))
 (.fg [1, 64, 65] (.ops false [.u 70 (.bin .add (.t 65) (.i 1)), .m 65 (.t 70)]))))))))))))
 (.fg [1] (.seq (.ops false [.m 71 (.t 1), .m 4 (.t 71)])
 .ret)))))))))))))))))
theorem gcd01_sound (hΓ : Holds P Γ) {f ft fh fc fk fu fp : Nat} (ht : Γ ft = .fresh 1 tr01_G) (hh : Γ fh = .own halve_G) (hcm : Γ fc = .dat true cmp01_G) (hk : Γ fk = .own take_G) (hu : Γ fu = .own cut_G) (hp : Γ fp = .dat false plus_G)
    (hc : check P f = some (72, (ac_linkworkref01_gcd ft fh fc fk fu fp).strip, [.tmp 4])) : Sound P f (.dat false gcd01_G) := by
  refine sound_dat hc gcd01_good hΓ (fun args K hcl hfi hG => ?_)
  match args, hG with
  | [a, b], hG =>
    obtain ⟨x, rfl, hx, y, rfl, hy, hxl, hyl, hK⟩ := hG
    refine ⟨by simp, ?_⟩
    simp only [go_sem, ac_linkworkref01_gcd, ht, hh, hcm, hk, hu, hp]
    have hxv := digs_len_le (val_lt hx)
    have hyv := digs_len_le (val_lt hy)
    refine ⟨hx, by omega, hy, by omega, fun _ => ⟨fun h0 => ?_, fun h0 _ => ⟨fun h1 => ?_, fun h1 => ?_⟩⟩⟩
    · rw [digs_len0.1 h0, Nat.gcd_zero_left] at hK; exact hK
    · rw [digs_len0.1 h1, Nat.gcd_zero_right] at hK; exact hK
    rw [digs_len0] at h0 h1
    refine wpA_loop (fun p : (Nat × List Nat) × (Nat × List Nat) × Nat => ⟨mkV [(0, .one (.own 7 1 1 0 (digs p.1.1).length)), (1, .one (.own 9 1 1 0 (digs p.2.1.1).length)), (5, .one (.lit (.int .i64 p.2.2)))], mkH [(7, ⟨1, some ⟨(digs p.1.1 ++ p.1.2).map wc, 1, true⟩⟩), (9, ⟨1, some ⟨(digs p.2.1.1 ++ p.2.1.2).map wc, 1, true⟩⟩)]⟩)
      (fun p => p.1.1 ≠ 0 ∧ p.2.1.1 ≠ 0 ∧ p.1.1 ≤ val x ∧ p.2.1.1 ≤ val y ∧ p.1.1 * 2 ^ p.2.2 ≤ val x ∧ Nat.gcd p.1.1 p.2.1.1 * 2 ^ p.2.2 = Nat.gcd (val x) (val y)) (fun p => p.1.1) ((val x, []), (val y, []), 0) ?_ ?_ ?_
    · exact weak_lit (by simp [okS, okV, okC, okL, okH, okB, okE, mkV_cons, mkV_nil, mkH_cons, mkH_nil, wsA, ws]) ⟨okB_wc (by simp), okB_wc (by simp), trivial⟩
    · exact ⟨h0, h1, Nat.le_refl _, Nat.le_refl _, by simp, by simp⟩
    · rintro ⟨⟨a, pa⟩, ⟨b, pb⟩, k⟩ ⟨ha, hb, hax, hby, hak, hg⟩
      simp only at ha hb hax hby hak hg
      have hkb : k < 32 * x.length := pow_lim (n := val x) (Nat.le_trans (Nat.le_mul_of_pos_left _ (by omega)) hak) (val_lt hx)
      have hal := Nat.le_trans (digs_len_mono hax) hxv
      have hbl := Nat.le_trans (digs_len_mono hby) hyv
      have hap := digs_pos_len ha
      have hbp := digs_pos_len hb
      simp only [go_sem, hh, hcm, hk, hu, hp, and32_1, digs_head ha, digs_head hb, hap, hbp, List.length_append]
      refine share4 (by omega) (by omega) (Nat.mod_lt _ (by omega)) (by omega) (by omega) (Nat.mod_lt _ (by omega)) (fun hae hbe => ?_) (fun hodd => ?_)
      · simp only [halve_G]
        refine ⟨digs a, pa, rfl, by simp [mkH_cons], digs_WL _, by omega, fun pa' => ?_⟩
        refine ⟨digs b, pb, rfl, by simp [upd, mkH_cons], digs_WL _, by omega, fun pb' => ?_⟩
        simp only [go_sem, val_digs]
        refine ⟨by omega, ((a / 2, pa'), (b / 2, pb'), k + 1), weak_lit (by simp [okS, okV, okC, okL, okH, okB, okE, mkV_cons, mkV_nil, mkH_cons, mkH_nil, wsA, ws]) ⟨okB_wc rfl, okB_wc rfl, trivial⟩, ⟨by simp only; omega, by simp only; omega, by simp only; omega, by simp only; omega, ?_, gcd_ee (by omega) (by omega) hg⟩, by simp only; omega⟩
        simp only
        refine Nat.le_trans ?_ hak
        rw [Nat.pow_succ, Nat.mul_comm (2 ^ k) 2, ← Nat.mul_assoc]
        exact Nat.mul_le_mul_right _ (by omega)
      · refine wpA_loop (fun p : Bool × (Nat × List Nat) × (Nat × List Nat) => match p.1 with
            | false => ⟨mkV [(0, .one (.own 7 1 1 0 (digs p.2.1.1).length)), (1, .one (.own 9 1 1 0 (digs p.2.2.1).length)), (5, .one (.lit (.int .i64 k)))], mkH [(7, ⟨1, some ⟨(digs p.2.1.1 ++ p.2.1.2).map wc, 1, true⟩⟩), (9, ⟨1, some ⟨(digs p.2.2.1 ++ p.2.2.2).map wc, 1, true⟩⟩)]⟩
            | true => ⟨mkV [(0, .one (.own 9 1 1 0 (digs p.2.1.1).length)), (1, .one (.own 7 1 1 0 (digs p.2.2.1).length)), (5, .one (.lit (.int .i64 k)))], mkH [(9, ⟨1, some ⟨(digs p.2.1.1 ++ p.2.1.2).map wc, 1, true⟩⟩), (7, ⟨1, some ⟨(digs p.2.2.1 ++ p.2.2.2).map wc, 1, true⟩⟩)]⟩)
          (fun p => p.2.2.1 ≠ 0 ∧ (p.2.1.1 % 2 ≠ 0 ∨ p.2.2.1 % 2 ≠ 0) ∧ (digs p.2.1.1).length ≤ 17179869184 ∧ (digs p.2.2.1).length ≤ 17179869184 ∧ Nat.gcd p.2.1.1 p.2.2.1 * 2 ^ k = Nat.gcd (val x) (val y)) (fun p => p.2.1.1 + p.2.2.1) (false, (a, pa), (b, pb)) ?_ ?_ ?_
        · exact weak_lit (by simp [okS, okV, okC, okL, okH, okB, okE, mkV_cons, mkV_nil, mkH_cons, mkH_nil, wsA, ws]) ⟨okB_wc rfl, okB_wc rfl, trivial⟩
        · exact ⟨hb, by simp only; omega, by simp only; omega, by simp only; omega, hg⟩
        clear hax hby hak hal hbl hap hbp hg ha hb hodd
        rintro ⟨sw, ⟨a, pa⟩, ⟨b, pb⟩⟩ ⟨hb, hodd, hal, hbl, hg⟩
        simp only at hb hodd hal hbl hg
        cases sw with
        | false =>
          simp only [go_sem, hh, hcm, hk, hu, hp, and32_1, val_digs, List.length_append, Nat.le_add_right, List.take_left]
          refine fun _ => ⟨fun hap => ?_, fun hap => ?_⟩
          · have ha : a ≠ 0 := fun e => by rw [e, digs_zero] at hap; simp at hap
            refine wpA_loop (fun p : Nat × List Nat => ⟨mkV [(0, .one (.own 7 1 1 0 (digs p.1).length)), (1, .one (.own 9 1 1 0 (digs b).length)), (5, .one (.lit (.int .i64 k)))], mkH [(7, ⟨1, some ⟨(digs p.1 ++ p.2).map wc, 1, true⟩⟩), (9, ⟨1, some ⟨(digs b ++ pb).map wc, 1, true⟩⟩)]⟩)
              (fun p => p.1 ≠ 0 ∧ p.1 ≤ a ∧ (p.1 % 2 ≠ 0 ∨ b % 2 ≠ 0) ∧ Nat.gcd p.1 b * 2 ^ k = Nat.gcd (val x) (val y)) (fun p => p.1) (a, pa) ?_ ?_ ?_
            · exact weak_lit (by simp [okS, okV, okC, okL, okH, okB, okE, mkV_cons, mkV_nil, mkH_cons, mkH_nil, wsA, ws]) ⟨okB_wc rfl, okB_wc rfl, trivial⟩
            · exact ⟨ha, Nat.le_refl _, hodd, hg⟩
            · rintro ⟨a', pa⟩ ⟨ha', haa, hodd, hg⟩
              simp only at ha' haa hodd hg
              have hap := digs_pos_len ha'
              simp only [go_sem, hh, hcm, hk, hu, hp, and32_1, val_digs, List.length_append, Nat.le_add_right, List.take_left, digs_head ha', hap]
              refine ⟨by omega, by omega, Nat.mod_lt _ (by omega), fun he => ?_, fun hao => ?_⟩
              · simp only [halve_G]
                refine ⟨digs a', pa, rfl, by simp [mkH_cons], digs_WL _, by have := digs_len_mono haa; omega, fun pa' => ?_⟩
                simp only [go_sem, hh, hcm, hk, hu, hp, and32_1, val_digs, List.length_append, Nat.le_add_right, List.take_left]
                refine ⟨(a' / 2, pa'), weak_lit (by simp [okS, okV, okC, okL, okH, okB, okE, mkV_cons, mkV_nil, mkH_cons, mkH_nil, wsA, ws]) ⟨okB_wc rfl, okB_wc rfl, trivial⟩, ⟨by simp only; omega, by simp only; omega, .inr (by omega), ?_⟩, by simp only; omega⟩
                rw [← hg]; simp only; rw [gcd_eo (by omega) (by omega)]
              · refine wpA_loop (fun p : Nat × List Nat => ⟨mkV [(0, .one (.own 7 1 1 0 (digs a').length)), (1, .one (.own 9 1 1 0 (digs p.1).length)), (5, .one (.lit (.int .i64 k)))], mkH [(7, ⟨1, some ⟨(digs a' ++ pa).map wc, 1, true⟩⟩), (9, ⟨1, some ⟨(digs p.1 ++ p.2).map wc, 1, true⟩⟩)]⟩)
                  (fun p => p.1 ≠ 0 ∧ p.1 ≤ b ∧ Nat.gcd a' p.1 * 2 ^ k = Nat.gcd (val x) (val y)) (fun p => p.1) (b, pb) ?_ ?_ ?_
                · exact weak_lit (by simp [okS, okV, okC, okL, okH, okB, okE, mkV_cons, mkV_nil, mkH_cons, mkH_nil, wsA, ws]) ⟨okB_wc rfl, okB_wc rfl, trivial⟩
                · exact ⟨hb, Nat.le_refl _, hg⟩
                · rintro ⟨b', pb⟩ ⟨hb', hbb, hg⟩
                  simp only at hb' hbb hg
                  have hbp := digs_pos_len hb'
                  simp only [go_sem, hh, hcm, hk, hu, hp, and32_1, val_digs, List.length_append, Nat.le_add_right, List.take_left, digs_head hb', hbp]
                  refine ⟨by omega, by omega, Nat.mod_lt _ (by omega), fun he => ?_, fun hbo => ?_⟩
                  · simp only [halve_G]
                    refine ⟨digs b', pb, rfl, by simp [mkH_cons], digs_WL _, by have := digs_len_mono hbb; omega, fun pb' => ?_⟩
                    simp only [go_sem, hh, hcm, hk, hu, hp, and32_1, val_digs, List.length_append, Nat.le_add_right, List.take_left]
                    refine ⟨(b' / 2, pb'), weak_lit (by simp [okS, okV, okC, okL, okH, okB, okE, mkV_cons, mkV_nil, mkH_cons, mkH_nil, wsA, ws]) ⟨okB_wc rfl, okB_wc rfl, trivial⟩, ⟨by simp only; omega, by simp only; omega, ?_⟩, by simp only; omega⟩
                    rw [← hg]; simp only; rw [gcd_oe (by omega) (by omega)]
                  · have hlb := digs_len_mono hbb
                    have hla := digs_len_mono haa
                    refine ⟨digs_WL _, digs_WL _, fun hlt => ?_, fun hge => ?_⟩
                    · have hlt := ordN_neg.1 hlt
                      simp only [take_G]
                      have e : val (dig (digs b').length (val (digs b') - val (digs a'))) = b' - a' := by
                        rw [val_dig, val_digs, val_digs, Nat.mod_eq_of_lt]
                        exact Nat.lt_of_le_of_lt (Nat.sub_le _ _) (lt_digs_len b')
                      refine ⟨digs b', pb, digs a', pa, by decide, rfl, by simp [mkH_cons], digs_WL _, by omega, rfl, by simp [mkH_cons], digs_WL _, by rw [val_digs, val_digs]; omega, ?_⟩
                      refine ⟨dig (digs b').length (val (digs b') - val (digs a')), pb, (dig_length _ _).symm, by simp [upd, mkH_cons], dig_WL _ _, by omega, fun post' => ?_⟩
                      simp only [go_sem, e]
                      have hle := Nat.le_trans (digs_len_mono (Nat.sub_le b' a')) (digs_len_mono hbb)
                      refine ⟨(true, (b' - a', post'), (a', pa)), weak_lit (by simp [okS, okV, okC, okL, okH, okB, okE, mkV_cons, mkV_nil, mkH_cons, mkH_nil, wsA, ws]) ⟨okB_wc rfl, okB_wc rfl, trivial⟩, ⟨ha', .inr (by simp only; omega), by simp only; omega, by simp only; omega, ?_⟩, by simp only; omega⟩
                      simp only
                      rw [gcd_sub (by omega), Nat.gcd_comm]; exact hg
                    · have hge := mt ordN_neg.2 hge
                      simp only [take_G]
                      have e : val (dig (digs a').length (val (digs a') - val (digs b'))) = a' - b' := by
                        rw [val_dig, val_digs, val_digs, Nat.mod_eq_of_lt]
                        exact Nat.lt_of_le_of_lt (Nat.sub_le _ _) (lt_digs_len a')
                      refine ⟨digs a', pa, digs b', pb, by decide, rfl, by simp [mkH_cons], digs_WL _, by omega, rfl, by simp [mkH_cons], digs_WL _, by rw [val_digs, val_digs]; omega, ?_⟩
                      refine ⟨dig (digs a').length (val (digs a') - val (digs b')), pa, (dig_length _ _).symm, by simp [upd, mkH_cons], dig_WL _ _, by omega, fun post' => ?_⟩
                      simp only [go_sem, e]
                      have hle := Nat.le_trans (digs_len_mono (Nat.sub_le a' b')) (digs_len_mono haa)
                      refine ⟨(false, (a' - b', post'), (b', pb)), weak_lit (by simp [okS, okV, okC, okL, okH, okB, okE, mkV_cons, mkV_nil, mkH_cons, mkH_nil, wsA, ws]) ⟨okB_wc rfl, okB_wc rfl, trivial⟩, ⟨hb', .inr (by simp only; omega), by simp only; omega, by simp only; omega, ?_⟩, by simp only; omega⟩
                      simp only
                      rw [gcd_sub (by omega)]; exact hg
          · have ha : a = 0 := digs_len0.1 (by omega)
            rw [ha, Nat.gcd_zero_left] at hg
            refine wpA_loop (fun j : Nat => ⟨mkV [(1, .one (ws (digs (b * 2 ^ j)))), (64, .one (.lit (.int .i64 k))), (65, .one (.lit (.int .i64 j)))], mkH []⟩) (fun j => j ≤ k) (fun j => k - j) 0 ?_ ?_ ?_
            · exact weak_lit (by simp [okS, okV, okC, okL, okH, okB, okE, mkV_cons, mkV_nil, mkH_cons, mkH_nil, wsA, ws]) trivial
            · exact Nat.zero_le _
            · rintro j hj
              simp only [go_sem, hh, hcm, hk, hu, hp, and32_1, val_digs, List.length_append, Nat.le_add_right, List.take_left]
              refine ⟨fun hlt => ?_, fun hge => ?_⟩
              · have hj1 : b * 2 ^ (j + 1) ≤ val x := by
                  refine Nat.le_trans (Nat.mul_le_mul_left b (Nat.pow_le_pow_right (by omega) hlt)) ?_
                  rw [hg]; exact Nat.le_of_dvd (by omega) (Nat.gcd_dvd_left _ _)
                have e : b * 2 ^ j + b * 2 ^ j = b * 2 ^ (j + 1) := by rw [Nat.pow_succ, ← Nat.mul_assoc]; omega
                have hl1 := Nat.le_trans (digs_len_mono (show b * 2 ^ j ≤ val x by omega)) hxv
                rw [e]
                refine ⟨digs_WL _, digs_WL _, by omega, by omega, by omega, j + 1, weak_lit (by simp [okS, okV, okC, okL, okH, okB, okE, mkV_cons, mkV_nil, mkH_cons, mkH_nil, wsA, ws]) trivial, by omega, by omega⟩
              · have e : j = k := by omega
                rw [e, hg]; exact hK
        | true =>
          simp only [go_sem, hh, hcm, hk, hu, hp, and32_1, val_digs, List.length_append, Nat.le_add_right, List.take_left]
          refine fun _ => ⟨fun hap => ?_, fun hap => ?_⟩
          · have ha : a ≠ 0 := fun e => by rw [e, digs_zero] at hap; simp at hap
            refine wpA_loop (fun p : Nat × List Nat => ⟨mkV [(0, .one (.own 9 1 1 0 (digs p.1).length)), (1, .one (.own 7 1 1 0 (digs b).length)), (5, .one (.lit (.int .i64 k)))], mkH [(9, ⟨1, some ⟨(digs p.1 ++ p.2).map wc, 1, true⟩⟩), (7, ⟨1, some ⟨(digs b ++ pb).map wc, 1, true⟩⟩)]⟩)
              (fun p => p.1 ≠ 0 ∧ p.1 ≤ a ∧ (p.1 % 2 ≠ 0 ∨ b % 2 ≠ 0) ∧ Nat.gcd p.1 b * 2 ^ k = Nat.gcd (val x) (val y)) (fun p => p.1) (a, pa) ?_ ?_ ?_
            · exact weak_lit (by simp [okS, okV, okC, okL, okH, okB, okE, mkV_cons, mkV_nil, mkH_cons, mkH_nil, wsA, ws]) ⟨okB_wc rfl, okB_wc rfl, trivial⟩
            · exact ⟨ha, Nat.le_refl _, hodd, hg⟩
            · rintro ⟨a', pa⟩ ⟨ha', haa, hodd, hg⟩
              simp only at ha' haa hodd hg
              have hap := digs_pos_len ha'
              simp only [go_sem, hh, hcm, hk, hu, hp, and32_1, val_digs, List.length_append, Nat.le_add_right, List.take_left, digs_head ha', hap]
              refine ⟨by omega, by omega, Nat.mod_lt _ (by omega), fun he => ?_, fun hao => ?_⟩
              · simp only [halve_G]
                refine ⟨digs a', pa, rfl, by simp [mkH_cons], digs_WL _, by have := digs_len_mono haa; omega, fun pa' => ?_⟩
                simp only [go_sem, hh, hcm, hk, hu, hp, and32_1, val_digs, List.length_append, Nat.le_add_right, List.take_left]
                refine ⟨(a' / 2, pa'), weak_lit (by simp [okS, okV, okC, okL, okH, okB, okE, mkV_cons, mkV_nil, mkH_cons, mkH_nil, wsA, ws]) ⟨okB_wc rfl, okB_wc rfl, trivial⟩, ⟨by simp only; omega, by simp only; omega, .inr (by omega), ?_⟩, by simp only; omega⟩
                rw [← hg]; simp only; rw [gcd_eo (by omega) (by omega)]
              · refine wpA_loop (fun p : Nat × List Nat => ⟨mkV [(0, .one (.own 9 1 1 0 (digs a').length)), (1, .one (.own 7 1 1 0 (digs p.1).length)), (5, .one (.lit (.int .i64 k)))], mkH [(9, ⟨1, some ⟨(digs a' ++ pa).map wc, 1, true⟩⟩), (7, ⟨1, some ⟨(digs p.1 ++ p.2).map wc, 1, true⟩⟩)]⟩)
                  (fun p => p.1 ≠ 0 ∧ p.1 ≤ b ∧ Nat.gcd a' p.1 * 2 ^ k = Nat.gcd (val x) (val y)) (fun p => p.1) (b, pb) ?_ ?_ ?_
                · exact weak_lit (by simp [okS, okV, okC, okL, okH, okB, okE, mkV_cons, mkV_nil, mkH_cons, mkH_nil, wsA, ws]) ⟨okB_wc rfl, okB_wc rfl, trivial⟩
                · exact ⟨hb, Nat.le_refl _, hg⟩
                · rintro ⟨b', pb⟩ ⟨hb', hbb, hg⟩
                  simp only at hb' hbb hg
                  have hbp := digs_pos_len hb'
                  simp only [go_sem, hh, hcm, hk, hu, hp, and32_1, val_digs, List.length_append, Nat.le_add_right, List.take_left, digs_head hb', hbp]
                  refine ⟨by omega, by omega, Nat.mod_lt _ (by omega), fun he => ?_, fun hbo => ?_⟩
                  · simp only [halve_G]
                    refine ⟨digs b', pb, rfl, by simp [mkH_cons], digs_WL _, by have := digs_len_mono hbb; omega, fun pb' => ?_⟩
                    simp only [go_sem, hh, hcm, hk, hu, hp, and32_1, val_digs, List.length_append, Nat.le_add_right, List.take_left]
                    refine ⟨(b' / 2, pb'), weak_lit (by simp [okS, okV, okC, okL, okH, okB, okE, mkV_cons, mkV_nil, mkH_cons, mkH_nil, wsA, ws]) ⟨okB_wc rfl, okB_wc rfl, trivial⟩, ⟨by simp only; omega, by simp only; omega, ?_⟩, by simp only; omega⟩
                    rw [← hg]; simp only; rw [gcd_oe (by omega) (by omega)]
                  · have hlb := digs_len_mono hbb
                    have hla := digs_len_mono haa
                    refine ⟨digs_WL _, digs_WL _, fun hlt => ?_, fun hge => ?_⟩
                    · have hlt := ordN_neg.1 hlt
                      simp only [take_G]
                      have e : val (dig (digs b').length (val (digs b') - val (digs a'))) = b' - a' := by
                        rw [val_dig, val_digs, val_digs, Nat.mod_eq_of_lt]
                        exact Nat.lt_of_le_of_lt (Nat.sub_le _ _) (lt_digs_len b')
                      refine ⟨digs b', pb, digs a', pa, by decide, rfl, by simp [mkH_cons], digs_WL _, by omega, rfl, by simp [mkH_cons], digs_WL _, by rw [val_digs, val_digs]; omega, ?_⟩
                      refine ⟨dig (digs b').length (val (digs b') - val (digs a')), pb, (dig_length _ _).symm, by simp [upd, mkH_cons], dig_WL _ _, by omega, fun post' => ?_⟩
                      simp only [go_sem, e]
                      have hle := Nat.le_trans (digs_len_mono (Nat.sub_le b' a')) (digs_len_mono hbb)
                      refine ⟨(false, (b' - a', post'), (a', pa)), weak_lit (by simp [okS, okV, okC, okL, okH, okB, okE, mkV_cons, mkV_nil, mkH_cons, mkH_nil, wsA, ws]) ⟨okB_wc rfl, okB_wc rfl, trivial⟩, ⟨ha', .inr (by simp only; omega), by simp only; omega, by simp only; omega, ?_⟩, by simp only; omega⟩
                      simp only
                      rw [gcd_sub (by omega), Nat.gcd_comm]; exact hg
                    · have hge := mt ordN_neg.2 hge
                      simp only [take_G]
                      have e : val (dig (digs a').length (val (digs a') - val (digs b'))) = a' - b' := by
                        rw [val_dig, val_digs, val_digs, Nat.mod_eq_of_lt]
                        exact Nat.lt_of_le_of_lt (Nat.sub_le _ _) (lt_digs_len a')
                      refine ⟨digs a', pa, digs b', pb, by decide, rfl, by simp [mkH_cons], digs_WL _, by omega, rfl, by simp [mkH_cons], digs_WL _, by rw [val_digs, val_digs]; omega, ?_⟩
                      refine ⟨dig (digs a').length (val (digs a') - val (digs b')), pa, (dig_length _ _).symm, by simp [upd, mkH_cons], dig_WL _ _, by omega, fun post' => ?_⟩
                      simp only [go_sem, e]
                      have hle := Nat.le_trans (digs_len_mono (Nat.sub_le a' b')) (digs_len_mono haa)
                      refine ⟨(true, (a' - b', post'), (b', pb)), weak_lit (by simp [okS, okV, okC, okL, okH, okB, okE, mkV_cons, mkV_nil, mkH_cons, mkH_nil, wsA, ws]) ⟨okB_wc rfl, okB_wc rfl, trivial⟩, ⟨hb', .inr (by simp only; omega), by simp only; omega, by simp only; omega, ?_⟩, by simp only; omega⟩
                      simp only
                      rw [gcd_sub (by omega)]; exact hg
          · have ha : a = 0 := digs_len0.1 (by omega)
            rw [ha, Nat.gcd_zero_left] at hg
            refine wpA_loop (fun j : Nat => ⟨mkV [(1, .one (ws (digs (b * 2 ^ j)))), (64, .one (.lit (.int .i64 k))), (65, .one (.lit (.int .i64 j)))], mkH []⟩) (fun j => j ≤ k) (fun j => k - j) 0 ?_ ?_ ?_
            · exact weak_lit (by simp [okS, okV, okC, okL, okH, okB, okE, mkV_cons, mkV_nil, mkH_cons, mkH_nil, wsA, ws]) trivial
            · exact Nat.zero_le _
            · rintro j hj
              simp only [go_sem, hh, hcm, hk, hu, hp, and32_1, val_digs, List.length_append, Nat.le_add_right, List.take_left]
              refine ⟨fun hlt => ?_, fun hge => ?_⟩
              · have hj1 : b * 2 ^ (j + 1) ≤ val x := by
                  refine Nat.le_trans (Nat.mul_le_mul_left b (Nat.pow_le_pow_right (by omega) hlt)) ?_
                  rw [hg]; exact Nat.le_of_dvd (by omega) (Nat.gcd_dvd_left _ _)
                have e : b * 2 ^ j + b * 2 ^ j = b * 2 ^ (j + 1) := by rw [Nat.pow_succ, ← Nat.mul_assoc]; omega
                have hl1 := Nat.le_trans (digs_len_mono (show b * 2 ^ j ≤ val x by omega)) hxv
                rw [e]
                refine ⟨digs_WL _, digs_WL _, by omega, by omega, by omega, j + 1, weak_lit (by simp [okS, okV, okC, okL, okH, okB, okE, mkV_cons, mkV_nil, mkH_cons, mkH_nil, wsA, ws]) trivial, by omega, by omega⟩
              · have e : j = k := by omega
                rw [e, hg]; exact hK
end Go.Abs
end
section
set_option linter.unusedVariables false
set_option linter.unusedSimpArgs false
set_option maxRecDepth 100000
namespace Go.Abs
open Go.Num
variable {P : Program} {Γ : Nat → Spec}
def ac_linkworkref01_divide (f0 f1 f2 f3 : Nat) : AC := (.seq (.ops false [.m 4 (.c (.one .emp)), .m 5 (.c (.one .emp))])
 (.fg [0, 1] (.seq (.ops false [.m 11 (.t 0), .u 12 (.len (.t 11)), .u 13 (.mk 1 [(.lit (.int .u32 0))] (.t 12) (.t 12)), .m 6 (.t 13)])
 (.fg [0, 1, 6] (.seq (.ops false [.m 14 (.t 1), .u 15 (.len (.t 14)), .u 16 (.bin .add (.t 15) (.i 1)), .u 17 (.mk 1 [(.lit (.int .u32 0))] (.t 16) (.t 16)), .m 7 (.t 17)])
 (.fg [0, 1, 6, 7] (.seq (.seq (.ops false [.m 18 (.t 0), .u 19 (.call f0 [(.t 18)]), .u 20 (.bin .sub (.t 19) (.i 1)), .m 8 (.t 20)])
 (.fg [0, 1, 6, 7, 8] (.block 0 (.loop (.seq (.seq (.ops false [.m 21 (.t 8), .u 22 (.bin .geq (.t 21) (.i 0))])
 (.fg [0, 1, 6, 7, 8, 22] (.cond (.t 22) .skip (.exit 0))))
 (.fg [0, 1, 6, 7, 8] (.seq (.block 1 (.seq (.ops false [.m 25 (.t 0), .m 26 (.t 8), .u 27 (.bin .quo (.t 26) (.i 32)), .u 28 (.idx 1 (.t 25) (.t 27)), .u 29 (.ld none 1 false (.t 28)), .m 30 (.t 8), .u 31 (.bin .rem (.t 30) (.i 32)), .u 32 (.bin .shr (.t 29) (.t 31)), .u 33 (.bin .and (.t 32) (.c (.one (.lit (.int .u32 1))))), .m 9 (.t 33)])
 (.fg [0, 1, 6, 7, 8, 9] (.seq (.seq (.ops false [.m 34 (.t 7), .u 35 (.len (.t 34)), .m 36 (.i 0)])
 (.fg [0, 1, 6, 7, 8, 9, 35, 36] (.block 2 (.loop (.seq (.ops false [.u 37 (.bin .lss (.t 36) (.t 35))])
 (.fg [0, 1, 6, 7, 8, 9, 35, 36, 37] (.seq (.cond (.t 37) .skip (.exit 2))
 (.fg [0, 1, 6, 7, 8, 9, 35, 36] (.seq (.block 3 (.seq (.ops false [.m 38 (.t 36), .m 10 (.t 38)])
 (.fg [0, 1, 6, 7, 8, 9, 10, 35, 36] (.ops true [.m 39 (.t 7), .m 40 (.t 10), .m 41 (.t 7), .m 42 (.t 10), .u 43 (.idx 1 (.t 41) (.t 42)), .u 44 (.ld none 1 false (.t 43)), .u 45 (.bin .shl (.t 44) (.c (.one (.lit (.int .u64 1))))), .m 46 (.t 9), .u 47 (.bin .or (.t 45) (.t 46)), .m 48 (.t 7), .m 49 (.t 10), .u 50 (.idx 1 (.t 48) (.t 49)), .u 51 (.ld none 1 false (.t 50)), .u 52 (.bin .shr (.t 51) (.c (.one (.lit (.int .u64 31))))), .u 53 (.idx 1 (.t 39) (.t 40)), .n (.st none 1 (.t 53) (.t 47)), .m 9 (.t 52)]))))
 (.fg [0, 1, 6, 7, 8, 9, 35, 36] (.ops false [.u 54 (.bin .add (.t 36) (.i 1)), .m 36 (.t 54)])))))))))))
 (.fg [0, 1, 6, 7, 8] (.seq (.ops false [.m 55 (.t 7), .m 56 (.t 1), .u 57 (.call f1 [(.t 55), (.t 56)]), .u 58 (.bin .geq (.t 57) (.i 0))])
 (.fg [0, 1, 6, 7, 8, 58] (.cond (.t 58) (.seq (.ops false [.m 59 (.t 7), .m 60 (.t 1), .u 61 (.call f2 [(.t 59), (.t 60)])])
 (.fg [0, 1, 6, 7, 8] (.ops true [.m 62 (.t 6), .m 63 (.t 8), .u 64 (.bin .quo (.t 63) (.i 32)), .u 65 (.idx 1 (.t 62) (.t 64)), .u 66 (.ld none 1 false (.t 65)), .m 67 (.t 8), .u 68 (.bin .rem (.t 67) (.i 32)), .u 69 (.bin .shl (.c (.one (.lit (.int .u32 1)))) (.t 68)), .u 70 (.bin .or (.t 66) (.t 69)), .u 71 (.idx 1 (.t 62) (.t 64)), .n (.st none 1 (.t 71) (.t 70))]))) .skip))))))))
 (.fg [0, 1, 6, 7, 8] (.ops false [.m 23 (.t 8), .u 24 (.bin .sub (.t 23) (.i 1)), .m 8 (.t 24)])))))))))
 (.fg [6, 7] (.seq (.ops false [.m 72 (.t 6), .u 73 (.callf f3 [(.t 72)]), .m 74 (.t 7), .u 75 (.callf f3 [(.t 74)]), .m 4 (.t 73), .m 5 (.t 75)])
 .ret)))))))))
theorem divide01_sound (hΓ : Holds P Γ) {f fb fc fk ft : Nat} (hb : Γ fb = .dat true bits01_G) (hcm : Γ fc = .dat true cmp01_G) (hk : Γ fk = .own take_G) (ht : Γ ft = .fresh 1 tr01_G)
  (hc : check P f = some (76, (ac_linkworkref01_divide fb fc fk ft).strip, [.tmp 4, .tmp 5])) : Sound P f (.dat false divide_G) := by
 refine sound_dat hc divide_good hΓ (fun args K hcl hfi hG => ?_)
 match args, hG with
 | [a, b], hG =>
  obtain ⟨x, rfl, hx, y, rfl, hy, hnx, hny, hy0, hxl, hyl, hK⟩ := hG
  refine ⟨by simp, ?_⟩
  simp only [go_sem, ac_linkworkref01_divide, hb, hcm, hk, ht]
  intro h1
  refine ⟨by omega, fun _ => ⟨by omega, by omega, hx, by omega, ?_⟩⟩
  obtain ⟨n, hn⟩ : ∃ n, (if x.length = 0 then 0 else 32 * (x.length - 1) + bln (x.getD (x.length - 1) 0)) = n := ⟨_, rfl⟩
  have hnlt : val x < 2 ^ n := by
   rw [← hn]; split
   ·rename_i h0; rw [List.eq_nil_of_length_eq_zero h0]; simp [val]
   ·exact bits_lt hx ‹_›
  have hnb : n ≤ 32 * x.length := by
   rw [← hn]; split
   ·omega
   ·have := bln_le (k := 32) (n := x.getD (x.length - 1) 0) (WL_getD hx _); omega
  have hy1 : 0 < val y := by
   have := val_pos_of_NZ hny hy0; omega
  rw [hn]
  refine ⟨by omega, ?_⟩
  refine wpA_loop (fun p : Nat × List Nat × List Nat => ⟨mkV [(0, wsA x), (1, wsA y), (6, .one (.own 13 1 1 0 x.length)), (7, .one (.own 17 1 1 0 (y.length + 1))), (8, .one (.lit (.int .i64 ((p.1 : Int) - 1))))], mkH [(13, ⟨1, some ⟨p.2.1.map wc, 1, true⟩⟩), (17, ⟨1, some ⟨p.2.2.map wc, 1, true⟩⟩)]⟩)
   (fun p => p.1 ≤ n ∧ WL p.2.1 ∧ p.2.1.length = x.length ∧ val p.2.1 = val x / 2 ^ p.1 / val y * 2 ^ p.1 ∧ WL p.2.2 ∧ p.2.2.length = y.length + 1 ∧ val p.2.2 = val x / 2 ^ p.1 % val y) (fun p => p.1) (n, List.replicate x.length 0, List.replicate (y.length + 1) 0) ?_ ?_ ?_
  ·exact weak_lit (by simp [okS, okV, okC, okL, okH, okB, okE, mkV_cons, mkV_nil, mkH_cons, mkH_nil, wsA, ws]) ⟨okB_wc (by simp), okB_wc (by simp), trivial⟩
  ·simp [WL_rep, val_rep, Nat.div_eq_of_lt hnlt]
  ·rintro ⟨n', q, r⟩ ⟨hn', hq, hql, hqv, hr, hrl, hrv⟩
   simp only at hn' hq hql hqv hr hrl hrv
   cases n' with
   | zero =>
    have e : ((0 : Nat) : Int) - 1 = -1 := rfl
    have e' : ((0 : Int) ≤ -1) = False := by simp
    simp only [go_sem, hb, hcm, hk, ht, e, e', hql, hrl]
    simp only [Nat.pow_zero, Nat.div_one, Nat.mul_one] at hqv hrv
    rw [hqv, hrv]
    exact ⟨hq, by omega, hr, by omega, hK⟩
   | succ i =>
    have e : ((i + 1 : Nat) : Int) - 1 = (i : Int) := by omega
    have e1 : (i : Int) / 32 = ((i / 32 : Nat) : Int) := rfl
    have e2 : (i : Int) % 32 = ((i % 32 : Nat) : Int) := rfl
    have e3 := bit_at hx i
    have hi32 : i / 32 < x.length := by omega
    have hib : i % 32 < 32 := Nat.mod_lt _ (by omega)
    simp only [go_sem, hb, hcm, hk, ht, e, e1, e2, e3, and32_1, hql, hrl]
    have g1 := WL_getD hx (i / 32)
    have g2 : x.getD (i / 32) 0 / 2 ^ (i % 32) < 2 ^ IntKind.u32.bits := Nat.lt_of_le_of_lt (Nat.div_le_self _ _) g1
    have g3 : ((i % 32 : Nat) : Int) ≤ IntKind.u32.bits := by have : IntKind.u32.bits = 32 := rfl; omega
    refine ⟨by decide, by omega, hi32, by decide, by omega, g2, fun hyl' => ?_⟩
    generalize hbit : val x / 2 ^ i % 2 = bit
    have hbit1 : bit ≤ 1 := by omega
    refine wpA_loop (fun p : List Nat × Nat => ⟨mkV [(0, wsA x), (1, wsA y), (6, .one (.own 13 1 1 0 x.length)), (7, .one (.own 17 1 1 0 (y.length + 1))), (8, .one (.lit (.int .i64 i))), (9, .one (.lit (.int .u32 p.2))), (35, .one (.lit (.int .i64 (y.length + 1 : Nat)))), (36, .one (.lit (.int .i64 p.1.length)))],
      mkH [(13, ⟨1, some ⟨q.map wc, 1, true⟩⟩), (17, ⟨1, some ⟨(p.1 ++ r.drop p.1.length).map wc, 1, true⟩⟩)]⟩)
     (fun p => p.1.length ≤ r.length ∧ WL p.1 ∧ p.2 ≤ 1 ∧ val p.1 + 4294967296 ^ p.1.length * p.2 = 2 * val (r.take p.1.length) + bit) (fun p => r.length - p.1.length) ([], bit) ?_ ?_ ?_
    ·exact weak_lit (by simp [okS, okV, okC, okL, okH, okB, okE, mkV_cons, mkV_nil, mkH_cons, mkH_nil, wsA, ws]) ⟨okB_wc rfl, okB_wc (by simp), trivial⟩
    ·simp [WL_nil, val, hbit1]
    ·rintro ⟨o, c⟩ ⟨hol, ho, hc1, hov⟩
     simp only at hol ho hc1 hov
     by_cases hlt : o.length < y.length + 1
     ·have g4 := WL_getD hr o.length
      simp only [go_sem, hb, hcm, hk, ht, len_od0 hol, hrl, hlt, get_od0, not_true, shl_or hc1, set_od0 _ (show o.length < r.length by omega)]
      refine ⟨⟨rfl, by decide, by decide⟩, ⟨rfl, Nat.mod_lt _ (by omega), by omega⟩, ⟨by decide, by decide⟩, by omega, (o ++ [r.getD o.length 0 * 2 % 4294967296 + c], r.getD o.length 0 / 2147483648), weak_lit (by simp [okS, okV, okC, okL, okH, okB, okE, mkV_cons, mkV_nil, mkH_cons, mkH_nil, wsA, ws]) ⟨okB_wc rfl, okB_wc rfl, trivial⟩, ⟨by simp; omega, WL_append.2 ⟨ho, WL_cons.2 ⟨by omega, WL_nil⟩⟩, by simp only; omega, ?_⟩, by simp; omega⟩
      simp only [List.length_append, List.length_cons, List.length_nil, Nat.zero_add, take_succ, val_append, val_cons, val_nil, Nat.mul_zero, Nat.add_zero, Nat.pow_succ]
      exact shl_step hov g4
     ·have hoe : o.length = y.length + 1 := by omega
      have hd : r.drop (y.length + 1) = [] := List.drop_of_length_le (by omega)
      simp only [go_sem, hb, hcm, hk, ht, hd, hoe, Nat.lt_irrefl, e1, e2]
      have hrlt : val r < val y := by rw [hrv]; exact Nat.mod_lt _ hy1
      have hylt := val_lt hy
      rw [List.take_of_length_le (by omega), hoe, Nat.pow_succ] at hov
      have hc0 : c = 0 := by
       rcases Nat.eq_zero_or_pos c with h | h
       ·exact h
       ·exfalso
        have : 4294967296 ^ y.length * 4294967296 * 1 ≤ 4294967296 ^ y.length * 4294967296 * c := Nat.mul_le_mul_left _ h
        omega
      subst hc0
      rw [Nat.mul_zero, Nat.add_zero] at hov
      refine ⟨ho, hy, fun h => ?_, fun h => ?_⟩
      ·have hge := ordN_ge.1 h
       have hs := div_step1 hy1 hbit hqv hrv (by omega)
       simp only [take_G, onWs_e]
       refine ⟨hy, o, [], hoe.symm, by simp [mkH_cons], ho, by omega, hge, ?_⟩
       have hp32 : 2 ^ (i % 32) < 4294967296 := Nat.lt_of_lt_of_le (Nat.pow_lt_pow_right (by omega) hib) (by decide)
       have e4 : (1 * 2 ^ (i % 32) % 4294967296 : Int) = ((2 ^ (i % 32) : Nat) : Int) := by
        rw [Int.one_mul, show ((2 : Int) ^ (i % 32)) = ((2 ^ (i % 32) : Nat) : Int) by rw [Int.natCast_pow]; rfl]
        generalize 2 ^ (i % 32) = w at hp32 ⊢
        omega
       have e5 := set_bit hib (low_bits hq hqv)
       have g5 := WL_getD hq (i / 32)
       simp only [go_sem, e1, e2, hql, dig_length, hoe, e4, e5]
       have hsv := val_set q (i / 32) (q.getD (i / 32) 0 + 2 ^ (i % 32)) (by omega)
       have hpp := pow_parts i
       rw [Nat.mul_add] at hsv
       have hv2 : val (q.set (i / 32) (q.getD (i / 32) 0 + 2 ^ (i % 32))) = val q + 2 ^ i := by omega
       have hsum : q.getD (i / 32) 0 + 2 ^ (i % 32) < 4294967296 := by
        rw [← e5]; exact Nat.or_lt_two_pow (n := 32) g5 hp32
       refine ⟨by decide, by omega, hi32, hi32, by decide, ⟨rfl, by decide, by omega⟩, ⟨rfl, g5, hp32⟩, hi32, hi32, ⟨by omega, by omega⟩, (i, q.set (i / 32) (q.getD (i / 32) 0 + 2 ^ (i % 32)), dig (y.length + 1) (val o - val y)), weak_lit (by simp [okS, okV, okC, okL, okH, okB, okE, mkV_cons, mkV_nil, mkH_cons, mkH_nil, wsA, ws]) ⟨okB_wc rfl, okB_wc rfl, trivial⟩, ⟨by simp only; omega, WL_set hq _ hsum, by simp [hql], ?_, dig_WL _ _, dig_length _ _, ?_⟩, by simp only; omega⟩
       ·simp only
        rw [hv2]; exact hs.1
       ·simp only
        rw [val_dig, hov, hs.2, Nat.mod_eq_of_lt]
        have := Nat.mod_lt (val x / 2 ^ i) hy1
        have h6 : (4294967296 : Nat) ^ y.length ≤ 4294967296 ^ (y.length + 1) := Nat.pow_le_pow_right (by omega) (by omega)
        omega
      ·have hlt2 := mt ordN_ge.2 h
       have hs := div_step0 hy1 hbit hqv hrv (by omega)
       refine ⟨by omega, (i, q, o), weak_lit (by simp [okS, okV, okC, okL, okH, okB, okE, mkV_cons, mkV_nil, mkH_cons, mkH_nil, wsA, ws]) ⟨okB_wc rfl, okB_wc rfl, trivial⟩, ⟨by simp only; omega, hq, hql, hs.1, ho, hoe, by simp only; rw [hov]; exact hs.2⟩, by simp only; omega⟩
end Go.Abs
end
section
set_option linter.unusedVariables false
set_option linter.unusedSimpArgs false
set_option maxRecDepth 100000
namespace Go.Abs
open Go.Num
variable {P : Program} {Γ : Nat → Spec}
def ac_linkworkref01_form (f0 : Nat) : AC := (.seq (.ops false [.u 4 (.alloc [(.lit (.bool false)), .emp])])
 (.fg [0, 1, 4] (.seq (.ops false [.m 5 (.t 1), .u 6 (.callf f0 [(.t 5)]), .m 1 (.t 6)])
 (.fg [0, 1, 4] (.seq (.seq (.ops false [.m 7 (.t 1), .u 8 (.len (.t 7)), .u 9 (.bin .eql (.t 8) (.i 0))])
 (.fg [0, 1, 4, 9] (.cond (.t 9) (.seq (.ops false [.u 10 (.build [.z [(.lit (.bool false)), .emp]]), .n (.st none 2 (.t 4) (.t 10))])
 .ret) .skip)))
 (.fg [0, 1, 4] (.seq (.ops false [.m 11 (.t 0), .m 12 (.t 1), .u 13 (.build [.x 1 (.t 11), .x 1 (.t 12)]), .n (.st none 2 (.t 4) (.t 13))])
 .ret)))))))
def ac_linkworkref01_Sign (f0 f1 : Nat) : AC := (.seq (.ops false [.u 1 (.box 2 (.t 0)), .m 2 (.i 0)])
 (.fg [1] (.seq (.seq (.ops false [.u 3 (.ld none 2 true (.t 1)), .u 4 (.call f0 [(.t 3)]), .u 5 (.len (.t 4)), .u 6 (.bin .eql (.t 5) (.i 0))])
 (.fg [1, 6] (.cond (.t 6) (.seq (.ops false [.m 2 (.i 0)])
 .ret) .skip)))
 (.fg [1] (.seq (.seq (.ops false [.u 7 (.ld none 2 true (.t 1)), .u 8 (.call f1 [(.t 7)])])
 (.fg [8] (.cond (.t 8) (.seq (.ops false [.m 2 (.i (-1))])
 .ret) .skip)))
 (.fg [] (.seq (.ops false [.m 2 (.i 1)])
 .ret)))))))
def ac_linkworkref01_Cmp (f0 f1 : Nat) : AC := (.seq (.ops false [.u 2 (.box 2 (.t 0)), .u 3 (.box 2 (.t 1)), .m 4 (.i 0)])
 (.fg [2, 3] (.seq (.ops false [.u 5 (.ld none 2 true (.t 2)), .u 6 (.ld none 2 true (.t 3)), .u 7 (.call f0 [(.t 5), (.t 6)]), .u 8 (.call f1 [(.t 7)]), .m 4 (.t 8)])
 .ret)))
def ac_linkworkref01_Add (f0 f1 f2 f3 f4 f5 : Nat) : AC := (.seq (.ops false [.u 2 (.box 2 (.t 0)), .u 3 (.box 2 (.t 1)), .u 4 (.alloc [(.lit (.bool false)), .emp])])
 (.fg [2, 3, 4] (.seq (.ops true [.u 7 (.ld none 2 true (.t 2)), .u 8 (.call f0 [(.t 7)]), .u 9 (.ld none 2 true (.t 3)), .u 10 (.call f0 [(.t 9)]), .m 5 (.t 8), .m 6 (.t 10)])
 (.fg [2, 3, 4, 5, 6] (.seq (.seq (.ops true [.u 11 (.ld none 2 true (.t 2)), .u 12 (.call f1 [(.t 11)]), .u 13 (.ld none 2 true (.t 3)), .u 14 (.call f1 [(.t 13)]), .u 15 (.binb .eql (.t 12) (.t 14))])
 (.fg [2, 3, 4, 5, 6, 15] (.cond (.t 15) (.seq (.ops false [.u 16 (.ld none 2 true (.t 2)), .u 17 (.call f1 [(.t 16)]), .m 18 (.t 5), .m 19 (.t 6), .u 20 (.call f2 [(.t 18), (.t 19)]), .u 21 (.call f3 [(.t 17), (.t 20)]), .n (.st none 2 (.t 4) (.t 21))])
 .ret) .skip)))
 (.fg [2, 3, 4, 5, 6] (.seq (.seq (.ops false [.m 22 (.t 5), .m 23 (.t 6), .u 24 (.call f4 [(.t 22), (.t 23)]), .u 25 (.bin .geq (.t 24) (.i 0))])
 (.fg [2, 3, 4, 5, 6, 25] (.cond (.t 25) (.seq (.ops false [.u 26 (.ld none 2 true (.t 2)), .u 27 (.call f1 [(.t 26)]), .m 28 (.t 5), .m 29 (.t 6), .u 30 (.call f5 [(.t 28), (.t 29)]), .u 31 (.call f3 [(.t 27), (.t 30)]), .n (.st none 2 (.t 4) (.t 31))])
 .ret) .skip)))
 (.fg [3, 4, 5, 6] (.seq (.ops false [.u 32 (.ld none 2 true (.t 3)), .u 33 (.call f1 [(.t 32)]), .m 34 (.t 6), .m 35 (.t 5), .u 36 (.call f5 [(.t 34), (.t 35)]), .u 37 (.call f3 [(.t 33), (.t 36)]), .n (.st none 2 (.t 4) (.t 37))])
 .ret)))))))))
def ac_linkworkref01_Sub (f0 f1 : Nat) : AC := (.seq (.ops false [.u 2 (.box 2 (.t 0)), .u 3 (.box 2 (.t 1)), .u 4 (.alloc [(.lit (.bool false)), .emp])])
 (.fg [2, 3, 4] (.seq (.ops true [.u 5 (.ld none 2 true (.t 2)), .u 6 (.ld none 2 true (.t 3)), .u 7 (.call f0 [(.t 6)]), .u 8 (.call f1 [(.t 5), (.t 7)]), .n (.st none 2 (.t 4) (.t 8))])
 .ret)))
def ac_linkworkref01_Gcd (f0 f1 f2 : Nat) : AC := (.seq (.ops false [.u 2 (.box 2 (.t 0)), .u 3 (.box 2 (.t 1)), .u 4 (.alloc [(.lit (.bool false)), .emp])])
 (.fg [2, 3, 4] (.seq (.ops true [.u 5 (.ld none 2 true (.t 2)), .u 6 (.call f0 [(.t 5)]), .u 7 (.ld none 2 true (.t 3)), .u 8 (.call f0 [(.t 7)]), .u 9 (.call f1 [(.t 6), (.t 8)]), .u 10 (.call f2 [.fa, (.t 9)]), .n (.st none 2 (.t 4) (.t 10))])
 .ret)))
def ac_linkworkref01_Div (f0 f1 f2 f3 f4 f5 f6 : Nat) : AC := (.seq (.ops false [.u 2 (.box 2 (.t 0)), .u 3 (.box 2 (.t 1)), .u 4 (.alloc [(.lit (.bool false)), .emp]), .u 5 (.alloc [(.lit (.bool false)), .emp]), .m 6 (.i 0)])
 (.fg [2, 3, 4, 5] (.seq (.seq (.ops false [.u 9 (.ld none 2 true (.t 3)), .u 10 (.call f0 [(.t 9)]), .u 11 (.bin .eql (.t 10) (.i 0))])
 (.fg [2, 3, 4, 5, 11] (.cond (.t 11) (.seq (.ops false [.u 12 (.build [.z [(.lit (.bool false)), .emp]]), .u 13 (.build [.z [(.lit (.bool false)), .emp]]), .n (.st none 2 (.t 4) (.t 12)), .n (.st none 2 (.t 5) (.t 13)), .m 6 (.i 8)])
 .ret) .skip)))
 (.fg [2, 3, 4, 5] (.seq (.ops true [.u 15 (.ld none 2 true (.t 2)), .u 16 (.call f1 [(.t 15)]), .u 17 (.ld none 2 true (.t 3)), .u 18 (.call f1 [(.t 17)]), .u 19 (.call f2 [(.t 16), (.t 18)]), .m 14 (.t 19), .u 20 (.ext 0 (.t 14)), .u 21 (.ext 1 (.t 14)), .m 7 (.t 20), .m 8 (.t 21)])
 (.fg [2, 3, 4, 5, 7, 8] (.seq (.seq (.ops false [.u 22 (.ld none 2 true (.t 2)), .u 23 (.call f3 [(.t 22)]), .m 24 (.t 23), .w 25 24 true (.mv (.t 8)), .w 26 24 true (.len (.t 25)), .w 27 24 true (.bin .gtr (.t 26) (.i 0)), .u 28 (.pick (.t 24) (.t 27) .fa)])
 (.fg [2, 3, 4, 5, 7, 8, 28] (.cond (.t 28) (.ops true [.m 29 (.t 7), .u 30 (.row 1 [[.x 1 (.c (.one (.lit (.int .u32 1))))]]), .u 31 (.call f4 [(.t 29), (.t 30)]), .u 32 (.ld none 2 true (.t 3)), .u 33 (.call f1 [(.t 32)]), .m 34 (.t 8), .u 35 (.call f5 [(.t 33), (.t 34)]), .m 7 (.t 31), .m 8 (.t 35)]) .skip)))
 (.fg [2, 3, 4, 5, 7, 8] (.seq (.ops true [.u 36 (.ld none 2 true (.t 2)), .u 37 (.call f3 [(.t 36)]), .u 38 (.ld none 2 true (.t 3)), .u 39 (.call f3 [(.t 38)]), .u 40 (.binb .neq (.t 37) (.t 39)), .m 41 (.t 7), .u 42 (.call f6 [(.t 40), (.t 41)]), .m 43 (.t 8), .u 44 (.call f6 [.fa, (.t 43)]), .n (.st none 2 (.t 4) (.t 42)), .n (.st none 2 (.t 5) (.t 44)), .m 6 (.i 0)])
 .ret)))))))))
theorem form01_sound (hΓ : Holds P Γ) {f ft : Nat} (ht : Γ ft = .fresh 1 tr01_G) (hc : check P f = some (14, (ac_linkworkref01_form ft).strip, [.cell 4 2 true])) : Sound P f (.dat false whole_G) := by
 refine sound_dat hc whole_good hΓ (fun args K hcl hfi hG => ?_)
 match args, hG with
 | [a, m], hG =>
  obtain ⟨b, rfl, hG⟩ := asBool_inv hG
  obtain ⟨l, rfl, hl, hlen, hK⟩ := hG
  refine ⟨by simp, ?_⟩
  simp only [go_sem, ac_linkworkref01_form, ht]
  refine ⟨hl, hlen, fun _ => ⟨fun h => ?_, fun h => ?_⟩⟩
  ·have h0 : val l = 0 := digs_len0.1 h
   have e : zcan (sg b (val l)) = zcan 0 := by rw [h0]; unfold sg; split <;> rfl
   rw [e] at hK
   have e2 : (zcan 0) = (false, []) := by simp [zcan, digs_zero]
   rw [e2] at hK; exact hK
  ·rw [← can_sg] at hK
   have e : decide (0 < (digs (val l)).length) = true := by simp only [decide_eq_true_eq]; omega
   rw [e, Bool.and_true] at hK; exact hK
theorem zsign01_sound (hΓ : Holds P Γ) {f fm fn : Nat} (hm : Γ fm = .dat false zmag_G) (hn : Γ fn = .dat true znegp_G) (hc : check P f = some (9, (ac_linkworkref01_Sign fm fn).strip, [.tmp 2])) : Sound P f (.dat true zsign_G) := by
 refine sound_dat hc zsign_good hΓ (fun args K hcl hfi hG => ?_)
 match args, hG with
 | [a], hG =>
  obtain ⟨w, rfl, hw, hK⟩ := hG
  refine ⟨by simp, ?_⟩
  simp only [go_sem, ac_linkworkref01_Sign, hm, hn, hw]
  intro _
  refine ⟨fun h => ?_, fun h => ⟨fun hb => ?_, fun hb => ?_⟩⟩
  ·have h0 : zv w = 0 := zs_eq_zero.1 h
   rw [h0] at hK; exact hK
  ·rw [Int.sign_eq_neg_one_of_neg hb] at hK; exact hK
  ·have h0 : zv w ≠ 0 := fun e => h (zs_eq_zero.2 e)
   rw [Int.sign_eq_one_of_pos (by omega)] at hK; exact hK
theorem zsub01_sound (hΓ : Holds P Γ) {f fn fa : Nat} (hn : Γ fn = .dat false zneg_G) (ha : Γ fa = .dat false zadd_G) (hc : check P f = some (9, (ac_linkworkref01_Sub fn fa).strip, [.cell 4 2 true])) : Sound P f (.dat false zsub_G) := by
 refine sound_dat hc zsub_good hΓ (fun args K hcl hfi hG => ?_)
 match args, hG with
 | [a, b], hG =>
  obtain ⟨v, rfl, hv, w, rfl, hw, hz, hz', hK⟩ := hG
  refine ⟨by simp, ?_⟩
  simp only [go_sem, ac_linkworkref01_Sub, hn, ha, hw, hv]
  refine ⟨by omega, hz, by rw [zs_neg]; exact hz', ?_⟩
  rw [← Int.sub_eq_add_neg]; exact hK
theorem zcmp01_sound (hΓ : Holds P Γ) {f fs fg : Nat} (hs : Γ fs = .dat false zsub_G) (hg : Γ fg = .dat true zsign_G) (hc : check P f = some (9, (ac_linkworkref01_Cmp fs fg).strip, [.tmp 4])) : Sound P f (.dat true zcmp01_G) := by
 refine sound_dat hc zcmp01_good hΓ (fun args K hcl hfi hG => ?_)
 match args, hG with
 | [a, b], hG =>
  obtain ⟨v, rfl, hv, w, rfl, hw, hz, hz', hz2, hK⟩ := hG
  refine ⟨by simp, ?_⟩
  simp only [go_sem, ac_linkworkref01_Cmp, hs, hg, hw, hv]
  refine ⟨hz, hz', ?_⟩
  have e : Int.sign (zv v - zv w) = ordI (zv v) (zv w) := by
   unfold ordI
   split
   ·exact Int.sign_eq_neg_one_of_neg (by omega)
   ·split
    ·exact Int.sign_eq_one_of_pos (by omega)
    ·rw [show zv v - zv w = 0 by omega]; rfl
  rw [e]; exact hK
theorem zgcd01_sound (hΓ : Holds P Γ) {f fm fg fw : Nat} (hm : Γ fm = .dat false zmag_G) (hg : Γ fg = .dat false gcd01_G) (hw' : Γ fw = .dat false whole_G) (hc : check P f = some (11, (ac_linkworkref01_Gcd fm fg fw).strip, [.cell 4 2 true])) : Sound P f (.dat false zgcd_G) := by
 refine sound_dat hc zgcd_good hΓ (fun args K hcl hfi hG => ?_)
 match args, hG with
 | [a, b], hG =>
  obtain ⟨v, rfl, hv, w, rfl, hw, hz, hz', hK⟩ := hG
  refine ⟨by simp, ?_⟩
  simp only [go_sem, ac_linkworkref01_Gcd, hm, hg, hw', hw, hv, val_digs]
  have hle : (digs ((zv v).natAbs.gcd (zv w).natAbs)).length ≤ 17179869184 := by
   rcases Nat.eq_zero_or_pos (zv v).natAbs with h | h
   ·rw [h, Nat.gcd_zero_left]; exact hz'
   ·exact Nat.le_trans (digs_len_mono (Nat.le_of_dvd h (Nat.gcd_dvd_left _ _))) hz
  exact ⟨digs_WL _, digs_WL _, hz, hz', digs_WL _, by omega, hK⟩
theorem zadd01_sound (hΓ : Holds P Γ) {f fn fm fp fw fc fl : Nat} (hn : Γ fn = .dat true znegp_G) (hm : Γ fm = .dat false zmag_G) (hp : Γ fp = .dat false plus_G) (hw' : Γ fw = .dat false whole_G) (hc' : Γ fc = .dat true cmp01_G) (hl : Γ fl = .dat false less_G) (hc : check P f = some (38, (ac_linkworkref01_Add fm fn fp fw fc fl).strip, [.cell 4 2 true])) : Sound P f (.dat false zadd_G) := by
 refine sound_dat hc zadd_good hΓ (fun args K hcl hfi hG => ?_)
 match args, hG with
 | [a, b], hG =>
  obtain ⟨v, rfl, hv, w, rfl, hw, hz, hz', hK⟩ := hG
  refine ⟨by simp, ?_⟩
  simp only [go_sem, ac_linkworkref01_Add, hn, hm, hp, hw', hc', hl, hw, hv]
  simp only [val_digs]
  have hsz := zs_add (zv v) (zv w)
  refine ⟨fun h => ⟨digs_WL _, digs_WL _, hz, hz', digs_WL _, ?_, ?_⟩, fun h => ⟨digs_WL _, digs_WL _, fun ho => ⟨digs_WL _, digs_WL _, by unfold zs at hz; omega, ?_, digs_WL _, ?_, ?_⟩, fun ho => ⟨digs_WL _, digs_WL _, by unfold zs at hz'; omega, ?_, digs_WL _, ?_, ?_⟩⟩⟩
  ·have e := sg_add_same (of_decide_beq h)
   rw [show (zv v).natAbs + (zv w).natAbs = (zv v + zv w).natAbs by have := of_decide_beq h; omega]
   unfold zs at *; omega
  ·rw [sg_add_same (of_decide_beq h)]; exact hK
  ·exact (ordN_ge.1 ho)
  ·have := digs_len_mono (Nat.sub_le (zv v).natAbs (zv w).natAbs); unfold zs at *; omega
  ·have h1 := ordN_ge.1 ho
   rw [sg_sub (of_decide_bne h) h1]; exact hK
  ·have := mt ordN_ge.2 ho; omega
  ·have := digs_len_mono (Nat.sub_le (zv w).natAbs (zv v).natAbs); unfold zs at *; omega
  ·have h1 := mt ordN_ge.2 ho
   rw [sg_sub (fun e => of_decide_bne h e.symm) (by omega), Int.add_comm]; exact hK
theorem zdiv01_sound (hΓ : Holds P Γ) {f fs fn fm fp fw fd fl : Nat} (hs : Γ fs = .dat true zsign_G) (hn : Γ fn = .dat true znegp_G) (hm : Γ fm = .dat false zmag_G) (hp : Γ fp = .dat false plus_G) (hw' : Γ fw = .dat false whole_G) (hd : Γ fd = .dat false divide_G) (hl : Γ fl = .dat false less_G) (hc : check P f = some (45, (ac_linkworkref01_Div fs fm fd fn fp fl fw).strip, [.cell 4 2 true, .cell 5 2 true, .tmp 6])) : Sound P f (.dat false zdiv01_G) := by
 refine sound_dat hc zdiv01_good hΓ (fun args K hcl hfi hG => ?_)
 match args, hG with
 | [a, b], hG =>
  obtain ⟨v, rfl, hv, w, rfl, hw, hz, hz', h0, hK⟩ := hG
  refine ⟨by simp, ?_⟩
  simp only [go_sem, ac_linkworkref01_Div, hs, hn, hm, hp, hw', hd, hl, hw, hv]
  simp only [val_digs]
  have hne : ¬ (digs (zv w).natAbs).length = 0 := fun e => h0 (zs_eq_zero.1 e)
  refine ⟨fun e => absurd (Int.sign_eq_zero_iff_zero.1 e) h0, fun _ => ⟨digs_WL _, digs_WL _, digs_NZ _, digs_NZ _, fun e => hne (by rw [e]; rfl), hz, hz', ?_⟩⟩
  have hq : (digs ((zv v).natAbs / (zv w).natAbs)).length ≤ 17179869184 := Nat.le_trans (digs_len_mono (Nat.div_le_self _ _)) hz
  have hr : (digs ((zv v).natAbs % (zv w).natAbs)).length ≤ 17179869184 := Nat.le_trans (digs_len_mono (Nat.mod_le _ _)) hz
  have hz'' : (digs (zv w).natAbs).length ≤ 17179869184 := hz'
  have hlt := Nat.mod_lt (zv v).natAbs (show 0 < (zv w).natAbs by omega)
  have hfin : (0 ≤ zv v ∨ (zv v).natAbs % (zv w).natAbs = 0) → K (AV.tup
    [AV.agg [zb (zcan (sg (!(decide (zv v < 0) == decide (zv w < 0))) ((zv v).natAbs / (zv w).natAbs))), zm (zcan (sg (!(decide (zv v < 0) == decide (zv w < 0))) ((zv v).natAbs / (zv w).natAbs)))],
     AV.agg [zb (zcan (sg false ((zv v).natAbs % (zv w).natAbs))), zm (zcan (sg false ((zv v).natAbs % (zv w).natAbs)))], AV.one (C.lit (Value.int IntKind.i64 0))]) := by
   intro h
   obtain ⟨e1, e2⟩ := ediv_pos h0 h
   have e1' : sg (!(decide (zv v < 0) == decide (zv w < 0))) ((zv v).natAbs / (zv w).natAbs) = zv v / zv w := e1
   have e2' : sg false ((zv v).natAbs % (zv w).natAbs) = zv v % zv w := e2
   rw [e1', e2']; exact hK
  refine ⟨fun hneg _ => ⟨fun hp => ⟨digs_WL _, (onWs_1 _ 1).mpr ⟨WL_cons.2 ⟨by decide, WL_nil⟩, hq, by decide, digs_WL _, digs_WL _, by omega, by omega, digs_WL _, ?_, digs_WL _, ?_, ?_⟩⟩, fun hp => ⟨digs_WL _, by omega, digs_WL _, by omega, hfin (.inr ?_)⟩⟩, fun hneg => ⟨digs_WL _, by omega, digs_WL _, by omega, hfin (.inl (by omega))⟩⟩
  ·have hv1 : val [1] = 1 := rfl
   rw [hv1]
   have h1 : zs 1 ≤ 2 := zs_of (by decide)
   have := zs_add (((zv v).natAbs / (zv w).natAbs : Nat) : Int) 1
   have e : (((zv v).natAbs / (zv w).natAbs : Nat) : Int) + 1 = (((zv v).natAbs / (zv w).natAbs + 1 : Nat) : Int) := by omega
   rw [e] at this
   have h3 : zs (((zv v).natAbs / (zv w).natAbs : Nat) : Int) = (digs ((zv v).natAbs / (zv w).natAbs)).length := rfl
   have h4 : zs (((zv v).natAbs / (zv w).natAbs + 1 : Nat) : Int) = (digs ((zv v).natAbs / (zv w).natAbs + 1)).length := rfl
   rw [h3, h4] at this
   omega
  ·have := digs_len_mono (Nat.sub_le (zv w).natAbs ((zv v).natAbs % (zv w).natAbs)); omega
  ·have hv1 : val [1] = 1 := rfl
   rw [hv1]
   have hne' : (zv v).natAbs % (zv w).natAbs ≠ 0 := by
    intro e; rw [e, digs_zero] at hp; simp at hp
   obtain ⟨e1, e2⟩ := ediv_neg h0 hneg hne'
   have e1' : sg (!(decide (zv v < 0) == decide (zv w < 0))) ((zv v).natAbs / (zv w).natAbs + 1) = zv v / zv w := e1
   have e2' : sg false ((zv w).natAbs - (zv v).natAbs % (zv w).natAbs) = zv v % zv w := e2
   rw [e1', e2']; exact hK
  ·have : digs ((zv v).natAbs % (zv w).natAbs) = [] := List.eq_nil_of_length_eq_zero (by omega)
   exact digs_eq_nil.1 this
end Go.Abs
end
section
set_option linter.unusedVariables false
set_option linter.unusedSimpArgs false
set_option maxRecDepth 100000
namespace Go.Num
def tcode (L : List (List Arc)) : Nat := if 16 < L.length then 4 else chk L
theorem flat_take {L : List (List Arc)} {i : Nat} {l : List Arc} (h : L[i]? = some l) : (L.take (i + 1)).flatten = (L.take i).flatten ++ l := by
 rw [List.take_add_one, h]; simp
theorem flat_le (L : List (List Arc)) (i : Nat) : (L.take i).flatten.length ≤ L.flatten.length := by
 have := congrArg (fun M => M.flatten.length) (List.take_append_drop i L)
 simp only [List.flatten_append, List.length_append] at this
 omega
theorem chk_all : ∀ {L : List (List Arc)}, chk L = 0 ↔ ∀ l ∈ L, chk [l] = 0
 | [] => ⟨fun _ l hl => by simp at hl, fun _ => rfl⟩
 | l :: L => by
  have ih := chk_all (L := L)
  constructor
  ·intro h m hm
   unfold chk at h
   split at h
   ·contradiction
   ·rename_i h1
    rcases List.mem_cons.1 hm with rfl | hm
    ·rw [chk_1]; simpa using h1
    ·exact ih.1 h m hm
  ·intro h
   have h1 := h l (by simp)
   rw [chk_1] at h1
   unfold chk
   rw [if_neg (by simp [h1])]
   exact ih.2 fun m hm => h m (by simp [hm])
theorem tcode_0 {L : List (List Arc)} (h : tcode L = 0) : L.length ≤ 16 ∧ ∀ l ∈ L, chk [l] = 0 := by
 unfold tcode at h
 split at h
 ·contradiction
 ·exact ⟨by omega, chk_all.1 h⟩
theorem okAs_WLA {b : Nat} {l : List Arc} (h : okAs b l) : ∀ z ∈ l, WLA z := fun z hz => (h z hz).1
theorem chk_drop {L : List (List Arc)} {k : Nat} {l : List Arc} (h : L[k]? = some l) : chk (L.drop k) = if chk1 l ≠ 0 then chk1 l else chk (L.drop (k + 1)) := by
 have hk := (List.getElem?_eq_some_iff.1 h).1
 rw [List.drop_eq_getElem_cons hk]
 rw [List.getElem?_eq_getElem hk, Option.some.injEq] at h
 rw [h]; rfl
end Go.Num
namespace Go.Abs
open Go.Num
variable {P : Program} {Γ : Nat → Spec}
def grow_G (l : List AV) (K : List (List C) → Prop) : Prop :=
 match l with
 | [a, n] => a = .one .emp ∧ asInt (fun k n => k = .i64 ∧ 0 ≤ n ∧ n ≤ 1000000 ∧ K []) n
 | _ => False
theorem grow_Ge (a n : AV) (K : List (List C) → Prop) : grow_G [a, n] K = (a = .one .emp ∧ asInt (fun k n => k = .i64 ∧ 0 ≤ n ∧ n ≤ 1000000 ∧ K []) n) := propext Iff.rfl
@[congr] theorem grow_Gc {K : List (List C) → Prop} {l l' : List AV} (h : l = l') : grow_G l K = grow_G l' K := by subst h; rfl
attribute [go_sem] grow_Ge
attribute [go_sem ↓] grow_Ge
theorem grow_good : Good grow_G := good_of fun as => by
 unfold grow_G
 split
 ·exact (.and fun _ => (g_asInt (fun _ _ => (.and fun _ => (.and fun _ => (.and fun _ => (.ret _))))) _))
 ·exact .of fun K hk => hk.elim
def concat_G (l : List AV) (K : List (List C) → Prop) : Prop :=
 match l with
 | [a] => onL (fun L => L.flatten.length ≤ 1000000 ∧ K (L.flatten.map aC)) a
 | _ => False
theorem concat_Ge (a : AV) (K : List (List C) → Prop) : concat_G [a] K = (onL (fun L => L.flatten.length ≤ 1000000 ∧ K (L.flatten.map aC)) a) := propext Iff.rfl
@[congr] theorem concat_Gc {K : List (List C) → Prop} {l l' : List AV} (h : l = l') : concat_G l K = concat_G l' K := by subst h; rfl
attribute [go_sem] concat_Ge
attribute [go_sem ↓] concat_Ge
theorem concat_good : Good concat_G := good_of fun as => by
 unfold concat_G
 split
 ·exact (g_onL fun _ => (.and fun _ => (.ret _)))
 ·exact .of fun K hk => hk.elim
def ctracked_G (tE : Nat) (l : List AV) (K : AV → Prop) : Prop :=
 match l with
 | [a] => onL (fun L => (∀ l ∈ L, okAs 4294967296 l) ∧ K (errV tE (tcode L))) a
 | _ => False
theorem ctracked_Ge (tE : Nat) (a : AV) (K : AV → Prop) : ctracked_G tE [a] K = (onL (fun L => (∀ l ∈ L, okAs 4294967296 l) ∧ K (errV tE (tcode L))) a) := propext Iff.rfl
@[congr] theorem ctracked_Gc (tE : Nat) {K : AV → Prop} {l l' : List AV} (h : l = l') : ctracked_G tE l K = ctracked_G tE l' K := by subst h; rfl
attribute [go_sem] ctracked_Ge
attribute [go_sem ↓] ctracked_Ge
theorem ctracked_good (tE : Nat) : Good (ctracked_G tE) := good_of fun as => by
 unfold ctracked_G
 split
 ·exact (g_onL fun _ => (.and fun _ => (.ret _)))
 ·exact .of fun K hk => hk.elim
def cFree_G (tE m : Nat) (l : List AV) (K : AV → Prop) : Prop :=
 match l with
 | [a] => onL (fun L => (tcode L = 0 → L.flatten.length ≤ m) ∧ (∀ l ∈ L, okAs 10000000 l) ∧ K (.tup [.one (.slice (((res (tcode L) (notL (nrm (vals L.flatten)))).map acan).map aC)), errV tE (cod (tcode L) (notL (nrm (vals L.flatten))))])) a
 | _ => False
theorem cFree_Ge (tE m : Nat) (a : AV) (K : AV → Prop) : cFree_G tE m [a] K = (onL (fun L => (tcode L = 0 → L.flatten.length ≤ m) ∧ (∀ l ∈ L, okAs 10000000 l) ∧ K (.tup [.one (.slice (((res (tcode L) (notL (nrm (vals L.flatten)))).map acan).map aC)), errV tE (cod (tcode L) (notL (nrm (vals L.flatten))))])) a) := propext Iff.rfl
@[congr] theorem cFree_Gc (tE m : Nat) {K : AV → Prop} {l l' : List AV} (h : l = l') : cFree_G tE m l K = cFree_G tE m l' K := by subst h; rfl
attribute [go_sem] cFree_Ge
attribute [go_sem ↓] cFree_Ge
theorem cFree_good (tE m : Nat) : Good (cFree_G tE m) := good_of fun as => by
 unfold cFree_G
 split
 ·exact (g_onL fun _ => (.and fun _ => (.and fun _ => (.ret _))))
 ·exact .of fun K hk => hk.elim
def fchecks_G (l : List AV) (K : AV → Prop) : Prop :=
 match l with
 | [a] => onL (fun L => (∀ l ∈ L, okAs 1073741824 l) ∧ K (.one (.lit (.int .i64 (tcode L : Nat))))) a
 | _ => False
theorem fchecks_Ge (a : AV) (K : AV → Prop) : fchecks_G [a] K = (onL (fun L => (∀ l ∈ L, okAs 1073741824 l) ∧ K (.one (.lit (.int .i64 (tcode L : Nat))))) a) := propext Iff.rfl
@[congr] theorem fchecks_Gc {K : AV → Prop} {l l' : List AV} (h : l = l') : fchecks_G l K = fchecks_G l' K := by subst h; rfl
attribute [go_sem] fchecks_Ge
attribute [go_sem ↓] fchecks_Ge
theorem fchecks_good : Good fchecks_G := good_of fun as => by
 unfold fchecks_G
 split
 ·exact (g_onL fun _ => (.and fun _ => (.ret _)))
 ·exact .of fun K hk => hk.elim
def fFree_G (l : List AV) (K : AV → Prop) : Prop :=
 match l with
 | [a] => onL (fun L => (∀ l ∈ L, okAs 1073741824 l) ∧ L.flatten.length ≤ 100000 ∧ L.length ≤ 1000 ∧ K (.tup [.one (.slice ((limA (cmbA 2 L)).map aC)), .one (.lit (.int .i64 (if 64 < (cmbA 2 L).length then 4 else 0)))])) a
 | _ => False
theorem fFree_Ge (a : AV) (K : AV → Prop) : fFree_G [a] K = (onL (fun L => (∀ l ∈ L, okAs 1073741824 l) ∧ L.flatten.length ≤ 100000 ∧ L.length ≤ 1000 ∧ K (.tup [.one (.slice ((limA (cmbA 2 L)).map aC)), .one (.lit (.int .i64 (if 64 < (cmbA 2 L).length then 4 else 0)))])) a) := propext Iff.rfl
@[congr] theorem fFree_Gc {K : AV → Prop} {l l' : List AV} (h : l = l') : fFree_G l K = fFree_G l' K := by subst h; rfl
attribute [go_sem] fFree_Ge
attribute [go_sem ↓] fFree_Ge
theorem fFree_good : Good fFree_G := good_of fun as => by
 unfold fFree_G
 split
 ·exact (g_onL fun _ => (.and fun _ => (.and fun _ => (.and fun _ => (.ret _)))))
 ·exact .of fun K hk => hk.elim
def ac_slices_Grow_g : AC := (.seq (.ops false [.m 4 (.c (.one .emp))])
 (.fg [0, 1] (.seq (.seq (.ops false [.m 5 (.t 1), .u 6 (.bin .lss (.t 5) (.i 0))])
 (.fg [0, 1, 6] (.cond (.t 6) (.ops false [.u 7 (.bad), .n (.bad)]) .skip)))
 (.fg [0, 1] (.seq (.seq (.ops false [.m 8 (.t 1), .m 9 (.t 0), .u 10 (.cap (.t 9)), .m 11 (.t 0), .u 12 (.len (.t 11)), .u 13 (.bin .sub (.t 10) (.t 12)), .u 14 (.bin .sub (.t 8) (.t 13)), .m 1 (.t 14)])
 (.fg [0, 1] (.seq (.ops false [.m 15 (.t 1), .u 16 (.bin .gtr (.t 15) (.i 0))])
 (.fg [0, 1, 16] (.cond (.t 16) (.ops false [.m 17 (.t 0), .m 18 (.t 0), .u 19 (.cap (.t 18)), .u 20 (.sl 6 (.t 17) none (some (.t 19))), .m 21 (.t 1), .u 22 (.appz 6 [(.lit (.bool false)), .emp, .emp, (.lit (.bool false)), .emp, .emp] (.t 20) (.t 21)), .m 23 (.t 0), .u 24 (.len (.t 23)), .u 25 (.sl 6 (.t 22) none (some (.t 24))), .m 0 (.t 25)]) .skip)))))
 (.fg [0] (.seq (.ops false [.m 26 (.t 0), .m 4 (.t 26)])
 .ret)))))))
def ac_slices_Concat_g (f0 : Nat) : AC := (.seq (.ops false [.m 2 (.c (.one .emp))])
 (.fg [0] (.seq (.ops false [.m 3 (.i 0)])
 (.fg [0, 3] (.seq (.seq (.ops false [.m 9 (.t 0), .u 10 (.len (.t 9)), .m 11 (.i 0)])
 (.fg [0, 3, 9, 10, 11] (.block 0 (.loop (.seq (.ops false [.u 12 (.bin .lss (.t 11) (.t 10))])
 (.fg [0, 3, 9, 10, 11, 12] (.seq (.cond (.t 12) .skip (.exit 0))
 (.fg [0, 3, 9, 10, 11] (.seq (.block 1 (.seq (.ops false [.u 13 (.idx 1 (.t 9) (.t 11)), .u 14 (.ld none 1 false (.t 13)), .m 5 (.t 14)])
 (.fg [0, 3, 5, 9, 10, 11] (.seq (.ops false [.m 15 (.t 3), .m 16 (.t 5), .u 17 (.len (.t 16)), .u 18 (.bin .add (.t 15) (.t 17)), .m 3 (.t 18)])
 (.fg [0, 3, 9, 10, 11] (.seq (.ops false [.m 19 (.t 3), .u 20 (.bin .lss (.t 19) (.i 0))])
 (.fg [0, 3, 9, 10, 11, 20] (.cond (.t 20) (.ops false [.u 21 (.bad), .n (.bad)]) .skip))))))))
 (.fg [0, 3, 9, 10, 11] (.ops false [.u 22 (.bin .add (.t 11) (.i 1)), .m 11 (.t 22)])))))))))))
 (.fg [0, 3] (.seq (.ops false [.m 23 (.t 3), .u 24 (.callf f0 [(.c (.one .emp)), (.t 23)]), .m 6 (.t 24)])
 (.fg [0, 6] (.seq (.seq (.ops false [.m 25 (.t 0), .u 26 (.len (.t 25)), .m 27 (.i 0)])
 (.fg [6, 25, 26, 27] (.block 2 (.loop (.seq (.ops false [.u 28 (.bin .lss (.t 27) (.t 26))])
 (.fg [6, 25, 26, 27, 28] (.seq (.cond (.t 28) .skip (.exit 2))
 (.fg [6, 25, 26, 27] (.seq (.block 3 (.seq (.ops false [.u 29 (.idx 1 (.t 25) (.t 27)), .u 30 (.ld none 1 false (.t 29)), .m 8 (.t 30)])
 (.fg [6, 8, 25, 26, 27] (.ops false [.m 31 (.t 6), .m 32 (.t 8), .u 33 (.app 6 (.t 31) (.t 32)), .m 6 (.t 33)]))))
 (.fg [6, 25, 26, 27] (.ops false [.u 34 (.bin .add (.t 27) (.i 1)), .m 27 (.t 34)])))))))))))
 (.fg [6] (.seq (.ops false [.m 35 (.t 6), .m 2 (.t 35)])
 .ret)))))))))))
def ac_chart_tracked (f0 tE : Nat) : AC := (.seq (.ops false [.m 2 (.c (.one (.lit .nilIface)))])
 (.fg [0] (.seq (.seq (.ops false [.m 3 (.t 0), .u 4 (.len (.t 3)), .u 5 (.bin .gtr (.t 4) (.i 16))])
 (.fg [0, 5] (.cond (.t 5) (.seq (.ops false [.u 6 (.iface tE (.i 4)), .m 2 (.t 6)])
 .ret) .skip)))
 (.fg [0] (.seq (.ops false [.m 7 (.t 0), .u 8 (.call f0 [(.t 7)]), .m 2 (.t 8)])
 .ret)))))
def ac_chart_Free (f0 f1 f2 f3 f4 : Nat) : AC := (.seq (.ops false [.m 2 (.c (.one .emp)), .m 3 (.c (.one (.lit .nilIface)))])
 (.fg [0] (.seq (.seq (.ops false [.m 5 (.t 0), .u 6 (.call f0 [(.t 5)]), .m 4 (.t 6)])
 (.fg [0, 4] (.seq (.ops false [.m 7 (.t 4), .u 8 (.binn .neq (.t 7) (.c (.one (.lit .nilIface))))])
 (.fg [0, 4, 8] (.cond (.t 8) (.seq (.ops false [.m 9 (.t 4), .m 2 (.c (.one .emp)), .m 3 (.t 9)])
 .ret) .skip)))))
 (.fg [0] (.seq (.ops false [.m 10 (.t 0), .u 11 (.callf f1 [(.t 10)]), .u 12 (.call f2 [(.t 11)]), .u 13 (.call f3 [(.t 12)]), .u 14 (.call f4 [(.t 13)]), .u 15 (.ext 0 (.t 14)), .u 16 (.ext 1 (.t 14)), .m 2 (.t 15), .m 3 (.t 16)])
 .ret)))))
def ac_linkworkref54_CheckTracks (f0 : Nat) : AC := (.seq (.ops false [.m 2 (.i 0)])
 (.fg [0] (.seq (.seq (.ops false [.m 5 (.t 0), .u 6 (.len (.t 5)), .u 7 (.bin .gtr (.t 6) (.i 16))])
 (.fg [0, 7] (.cond (.t 7) (.seq (.ops false [.m 2 (.i 4)])
 .ret) .skip)))
 (.fg [0] (.seq (.seq (.ops false [.m 3 (.i 0)])
 (.fg [0, 3] (.block 0 (.loop (.seq (.seq (.ops false [.m 8 (.t 3), .m 9 (.t 0), .u 10 (.len (.t 9)), .u 11 (.bin .lss (.t 8) (.t 10))])
 (.fg [0, 3, 11] (.cond (.t 11) .skip (.exit 0))))
 (.fg [0, 3] (.seq (.block 1 (.seq (.ops false [.m 14 (.t 0), .m 15 (.t 3), .u 16 (.idx 1 (.t 14) (.t 15)), .u 17 (.ld none 1 false (.t 16)), .u 18 (.call f0 [(.t 17)]), .m 4 (.t 18)])
 (.fg [0, 3, 4] (.seq (.ops false [.m 19 (.t 4), .u 20 (.bin .neq (.t 19) (.i 0))])
 (.fg [0, 3, 4, 20] (.cond (.t 20) (.seq (.ops false [.m 21 (.t 4), .m 2 (.t 21)])
 .ret) .skip))))))
 (.fg [0, 3] (.ops false [.m 12 (.t 3), .u 13 (.bin .add (.t 12) (.i 1)), .m 3 (.t 13)])))))))))
 (.fg [] (.seq (.ops false [.m 2 (.i 0)])
 .ret)))))))
def ac_linkworkref54_Free (f0 : Nat) : AC := (.seq (.ops false [.m 2 (.c (.one .emp)), .m 3 (.i 0)])
 (.fg [0] (.seq (.ops false [.m 4 (.t 0), .u 5 (.call f0 [(.i 2), (.t 4)]), .u 6 (.ext 0 (.t 5)), .u 7 (.ext 1 (.t 5)), .m 2 (.t 6), .m 3 (.t 7)])
 .ret)))
theorem grow_sound (hΓ : Holds P Γ) {f : Nat} (hc : check P f = some (27, ac_slices_Grow_g.strip, [.tmp 4])) : Sound P f (.fresh 6 grow_G) := by
 refine sound_fresh hc grow_good hΓ (fun args K hcl hfi hG => ?_)
 match args, hG with
 | [a, b], hG =>
  obtain ⟨rfl, hG⟩ := hG
  obtain ⟨k, n, rfl, rfl, h0, h1, hK⟩ := asInt_inv hG
  refine ⟨by simp, ?_⟩
  simp only [go_sem, ac_slices_Grow_g]
  refine ⟨fun h => by omega, fun _ => ⟨by omega, by omega, fun h => ⟨by omega, by omega, by omega, by omega, by omega, hK⟩, fun h => hK⟩⟩
theorem concat_sound (hΓ : Holds P Γ) {f fg : Nat} (hg : Γ fg = .fresh 6 grow_G) (hc : check P f = some (36, (ac_slices_Concat_g fg).strip, [.tmp 2])) : Sound P f (.fresh 6 concat_G) := by
 refine sound_fresh hc concat_good hΓ (fun args K hcl hfi hG => ?_)
 match args, hG with
 | [a], hG =>
  obtain ⟨L, rfl, hwL, hlen, hK⟩ := hG
  refine ⟨by simp, ?_⟩
  simp only [go_sem, ac_slices_Concat_g, hg]
  intro hLl
  refine wpA_loop (fun k : Nat => ⟨mkV [(0, lsA L), (3, .one (.lit (.int .i64 (L.take k).flatten.length))), (9, lsA L), (10, .one (.lit (.int .i64 L.length))), (11, .one (.lit (.int .i64 k)))], mkH []⟩) (fun k => k ≤ L.length) (fun k => L.length - k) 0 ?_ ?_ ?_
  ·exact weak_lit (by simp [okS, okV, okC, okL, okH, okB, okE, mkV_cons, mkV_nil, mkH_cons, mkH_nil, wsA, ws, lsA]) trivial
  ·exact Nat.zero_le _
  ·intro k hk
   have hfk := flat_le L k
   by_cases hlt : k < L.length
   ·obtain ⟨l, hl⟩ : ∃ l, L.getD k [] = l := ⟨_, rfl⟩
    have hl0 : L[k]? = some l := by rw [← hl, List.getD_eq_getElem?_getD, List.getElem?_eq_getElem hlt]; rfl
    have hft := flat_le L (k + 1)
    have hlt' : (L.take (k + 1)).flatten.length = (L.take k).flatten.length + l.length := by rw [flat_take hl0, List.length_append]
    simp only [go_sem, hlt, hl]
    refine fun _ => ⟨by omega, fun h => by omega, fun _ => ⟨by omega, k + 1, weak_lit (by simp only [okS, okV, okC, okL, okH, okB, okE, mkV_cons, mkV_nil, mkH_cons, mkH_nil, wsA, ws, lsA]; rw [hlt']; simp) trivial, by omega, by omega⟩⟩
   ·have e : L.take k = L := List.take_of_length_le (by omega)
    simp only [go_sem, hlt, e, hg]
    refine ⟨by omega, fun _ => ?_⟩
    refine wpA_loop (fun k : Nat => ⟨mkV [(6, .one (.own 24 1 6 0 (L.take k).flatten.length)), (25, lsA L), (26, .one (.lit (.int .i64 L.length))), (27, .one (.lit (.int .i64 k)))], mkH [(24, ⟨1, some ⟨(L.take k).flatten.map aC, 6, true⟩⟩)]⟩) (fun k => k ≤ L.length) (fun k => L.length - k) 0 ?_ ?_ ?_
    ·exact weak_lit (by simp [okS, okV, okC, okL, okH, okB, okE, mkV_cons, mkV_nil, mkH_cons, mkH_nil, wsA, ws, lsA]) ⟨okB_a (by simp), trivial⟩
    ·exact Nat.zero_le _
    ·intro j hj
     by_cases hlt2 : j < L.length
     ·obtain ⟨l, hl⟩ : ∃ l, L.getD j [] = l := ⟨_, rfl⟩
      have hl0 : L[j]? = some l := by rw [← hl, List.getD_eq_getElem?_getD, List.getElem?_eq_getElem hlt2]; rfl
      have hft := flat_le L (j + 1)
      have hlt' : (L.take (j + 1)).flatten = (L.take j).flatten ++ l := flat_take hl0
      have hlt'' := congrArg List.length hlt'
      rw [List.length_append] at hlt''
      simp only [go_sem, hlt2, hl]
      exact ⟨by omega, by omega, j + 1, weak_lit (by simp only [okS, okV, okC, okL, okH, okB, okE, mkV_cons, mkV_nil, mkH_cons, mkH_nil, wsA, ws, lsA]; rw [hlt'']; simp) ⟨okB_a (by rw [hlt']), trivial⟩, by omega, by omega⟩
     ·have e : L.take j = L := List.take_of_length_le (by omega)
      simp only [go_sem, hlt2, e]
      exact hK
theorem ctracked_sound (hΓ : Holds P Γ) {f fk tE : Nat} (hk : Γ fk = .dat false (ccheck_G tE)) (hc : check P f = some (9, (ac_chart_tracked fk tE).strip, [.tmp 2])) : Sound P f (.dat false (ctracked_G tE)) := by
 refine sound_dat hc (ctracked_good tE) hΓ (fun args K hcl hfi hG => ?_)
 match args, hG with
 | [a], hG =>
  obtain ⟨L, rfl, hwL, hok, hK⟩ := hG
  refine ⟨by simp, ?_⟩
  by_cases h : 16 < L.length
  ·rw [tcode, if_pos h, errV_s tE (by decide)] at hK
   simp only [go_sem, ac_chart_tracked, hk]
   exact fun _ => ⟨fun _ => hK, fun h' => absurd (by omega) h'⟩
  ·rw [tcode, if_neg h] at hK
   simp only [go_sem, ac_chart_tracked, hk]
   exact fun _ => ⟨fun h' => absurd (by omega) h, fun _ => ⟨hwL, hok, hK⟩⟩
theorem fchecks_sound (hΓ : Holds P Γ) {f fk : Nat} (hk : Γ fk = .dat true rcheck_G) (hc : check P f = some (22, (ac_linkworkref54_CheckTracks fk).strip, [.tmp 2])) : Sound P f (.dat true fchecks_G) := by
 refine sound_dat hc fchecks_good hΓ (fun args K hcl hfi hG => ?_)
 match args, hG with
 | [a], hG =>
  obtain ⟨L, rfl, hwL, hok, hK⟩ := hG
  refine ⟨by simp, ?_⟩
  simp only [go_sem, ac_linkworkref54_CheckTracks, hk]
  refine fun _ => ⟨fun h => ?_, fun h => ?_⟩
  ·rw [tcode, if_pos (by omega)] at hK; exact hK
  rw [tcode, if_neg (by omega)] at hK
  refine wpA_loop (fun k : Nat => ⟨mkV [(0, lsA L), (3, .one (.lit (.int .i64 k)))], mkH []⟩) (fun k => k ≤ L.length ∧ chk L = chk (L.drop k)) (fun k => L.length - k) 0 ?_ ?_ ?_
  ·exact weak_lit (by simp [okS, okV, okC, okL, okH, okB, okE, mkV_cons, mkV_nil, mkH_cons, mkH_nil, wsA, ws, lsA]) trivial
  ·exact ⟨Nat.zero_le _, rfl⟩
  ·rintro k ⟨hkl, hch⟩
   by_cases hlt : k < L.length
   ·obtain ⟨l, hl⟩ : ∃ l, L.getD k [] = l := ⟨_, rfl⟩
    have hl0 : L[k]? = some l := by rw [← hl, List.getD_eq_getElem?_getD, List.getElem?_eq_getElem hlt]; rfl
    have hok' := hok l (List.mem_of_getElem? hl0)
    rw [chk_drop hl0] at hch
    obtain ⟨c, hcc⟩ : ∃ c, chk1 l = c := ⟨_, rfl⟩
    rw [hcc] at hch
    by_cases h0 : c = 0
    ·subst h0
     simp only [go_sem, hk, hlt, hl, hcc]
     exact fun _ => ⟨okAs_WLA hok', hok', by omega, k + 1, weak_lit (by simp [okS, okV, okC, okL, okH, okB, okE, mkV_cons, mkV_nil, mkH_cons, mkH_nil, wsA, ws, lsA]) trivial, ⟨by omega, hch⟩, by omega⟩
    ·rw [if_pos h0] at hch
     have i1 : ¬ ((c : Int) = 0) := by omega
     rw [hch] at hK
     simp only [go_sem, hk, hlt, hl, hcc, h0, i1]
     exact fun _ => ⟨okAs_WLA hok', hok', hK⟩
   ·simp only [go_sem, hk, hlt]
    rw [List.drop_of_length_le (by omega)] at hch
    rw [hch] at hK
    exact fun _ => hK
theorem cFree_sound (hΓ : Holds P Γ) {f ft fg fn fo fl tE m : Nat} (hm : m ≤ 1000) (ht : Γ ft = .dat false (ctracked_G tE)) (hg : Γ fg = .fresh 6 concat_G) (hn : Γ fn = .dat false (cnorm_G m)) (ho : Γ fo = .dat false cnot_G) (hl : Γ fl = .dat false (climit_G tE)) (hc : check P f = some (17, (ac_chart_Free ft fg fn fo fl).strip, [.tmp 2, .tmp 3])) : Sound P f (.dat false (cFree_G tE m)) := by
 refine sound_dat hc (cFree_good tE m) hΓ (fun args K hcl hfi hG => ?_)
 match args, hG with
 | [a], hG =>
  obtain ⟨L, rfl, hwL, hlm, hok, hK⟩ := hG
  refine ⟨by simp, ?_⟩
  have oo : ∀ z ∈ L, okAs 4294967296 z := fun z hz => okAs_mono (hok z hz) (by decide)
  by_cases h0 : tcode L = 0
  ·obtain ⟨h16, hch⟩ := tcode_0 h0
   have hlm' := hlm h0
   rw [h0] at hK
   have hof : okAs 10000000 L.flatten := fun z hz => by
    obtain ⟨l, hl, hz⟩ := List.mem_flatten.1 hz
    exact hok l hl z hz
   have hpf : PosA L.flatten := fun z hz => by
    obtain ⟨l, hl, hz⟩ := List.mem_flatten.1 hz
    exact chk_pos (hch l hl) z hz
   have hwf : ∀ z ∈ L.flatten, WLA z := fun z hz => (hof z hz).1
   have hfin := lim_fin hK
   rw [List.length_map] at hfin
   have n1 := nrm_len (vals L.flatten)
   simp only [vals, List.length_map] at n1
   simp only [go_sem, ac_chart_Free, ht, hg, hn, ho, hl, h0, errV_0, vals_can]
   exact ⟨hwL, oo, hwL, by omega, hwf, hlm', okAs_mono hof (by decide), hpf, WLA_cans _, by simp only [vals]; omega, okAs_mono (okAs_nrm hof) (by decide), WLA_cans _, hfin⟩
  ·have rc : ∀ M, res (tcode L) M = [] := fun M => if_neg h0
   have cc : ∀ M, cod (tcode L) M = tcode L := fun M => if_neg h0
   rw [rc, cc, errV_s tE h0] at hK
   simp only [go_sem, ac_chart_Free, ht, hg, hn, ho, hl, h0, errV_s tE h0]
   exact ⟨hwL, oo, hK⟩
theorem fFree_sound (hΓ : Holds P Γ) {f fc : Nat} (hcm : Γ fc = .dat false fcomb_G) (hc : check P f = some (8, (ac_linkworkref54_Free fc).strip, [.tmp 2, .tmp 3])) : Sound P f (.dat false fFree_G) := by
 refine sound_dat hc fFree_good hΓ (fun args K hcl hfi hG => ?_)
 match args, hG with
 | [a], hG =>
  obtain ⟨L, rfl, hwL, hok, hl1, hl2, hK⟩ := hG
  refine ⟨by simp, ?_⟩
  simp only [go_sem, ac_linkworkref54_Free, hcm]
  exact ⟨by decide, by decide, hwL, hok, hl1, hl2, hK⟩
end Go.Abs
end
section
set_option linter.unusedVariables false
namespace Go.Num
def fRow {α : Type} (h : Nat → Nat → Option α) (a : Nat) : List Nat → Option (Nat × Nat × α)
 | [] => none
 | b :: r => match h a b with
  | some x => some (a, b, x)
  | none => fRow h a r
def fAll {α : Type} (h : Nat → Nat → Option α) (n : Nat) : List Nat → Option (Nat × Nat × α)
 | [] => none
 | a :: r => (fRow h a (List.range' (a + 1) (n - (a + 1)))).or (fAll h n r)
def first {α : Type} (h : Nat → Nat → Option α) (n : Nat) : Option (Nat × Nat × α) := fAll h n (List.range' 0 n)
theorem range_cons {a n : Nat} (h : a < n) : List.range' a (n - a) = a :: List.range' (a + 1) (n - (a + 1)) := by
 rw [show n - a = (n - (a + 1)) + 1 by omega, List.range'_succ]
theorem range_nil {a n : Nat} (h : n ≤ a) : List.range' a (n - a) = [] := by
 rw [show n - a = 0 by omega]; rfl
theorem fRow_map {α β : Type} {h : Nat → Nat → Option α} {h' : Nat → Nat → Option β} {g : β → α} {a n : Nat} (ha : a < n) (e : ∀ a b, a < n → b < n → h a b = (h' a b).map g) : ∀ r : List Nat, (∀ b ∈ r, b < n) → fRow h a r = (fRow h' a r).map fun p => (p.1, p.2.1, g p.2.2)
 | [], _ => rfl
 | b :: r, hr => by
  unfold fRow
  rw [e a b ha (hr b (by simp))]
  cases h' a b with
  | none => exact fRow_map ha e r fun b hb => hr b (by simp [hb])
  | some x => rfl
theorem fAll_map {α β : Type} {h : Nat → Nat → Option α} {h' : Nat → Nat → Option β} {g : β → α} {n : Nat} (e : ∀ a b, a < n → b < n → h a b = (h' a b).map g) : ∀ r : List Nat, (∀ a ∈ r, a < n) → fAll h n r = (fAll h' n r).map fun p => (p.1, p.2.1, g p.2.2)
 | [], _ => rfl
 | a :: r, hr => by
  have ha := hr a (by simp)
  unfold fAll
  rw [fRow_map (h' := h') (g := g) ha e _ (fun b hb => by rw [List.mem_range'_1] at hb; omega), fAll_map e r fun b hb => hr b (by simp [hb])]
  cases fRow h' a (List.range' (a + 1) (n - (a + 1))) <;> rfl
theorem first_map {α β : Type} {h : Nat → Nat → Option α} {h' : Nat → Nat → Option β} {g : β → α} {n : Nat} (e : ∀ a b, a < n → b < n → h a b = (h' a b).map g) : first h n = (first h' n).map fun p => (p.1, p.2.1, g p.2.2) :=
 fAll_map e _ fun a ha => by rw [List.mem_range'_1] at ha; omega
theorem fRow_some {α : Type} {h : Nat → Nat → Option α} {a : Nat} : ∀ {r : List Nat} {p : Nat × Nat × α}, fRow h a r = some p → p.1 = a ∧ p.2.1 ∈ r ∧ h a p.2.1 = some p.2.2
 | [], p, e => by simp [fRow] at e
 | b :: r, p, e => by
  unfold fRow at e
  cases hh : h a b with
  | none => rw [hh] at e; obtain ⟨h1, h2, h3⟩ := fRow_some e; exact ⟨h1, by simp [h2], h3⟩
  | some x => rw [hh] at e; simp only [Option.some.injEq] at e; subst e; exact ⟨rfl, by simp, hh⟩
theorem fAll_some {α : Type} {h : Nat → Nat → Option α} {n : Nat} : ∀ {r : List Nat} {p : Nat × Nat × α}, fAll h n r = some p → p.1 ∈ r ∧ p.1 < p.2.1 ∧ p.2.1 < n ∧ h p.1 p.2.1 = some p.2.2
 | [], p, e => by simp [fAll] at e
 | a :: r, p, e => by
  unfold fAll at e
  cases hh : fRow h a (List.range' (a + 1) (n - (a + 1))) with
  | none => rw [hh, Option.none_or] at e; obtain ⟨h1, h2⟩ := fAll_some e; exact ⟨by simp [h1], h2⟩
  | some x =>
   rw [hh, Option.some_or] at e; simp only [Option.some.injEq] at e; subst e
   obtain ⟨h1, h2, h3⟩ := fRow_some hh
   rw [List.mem_range'_1] at h2
   exact ⟨by simp [h1], by omega, by omega, by rw [h1]; exact h3⟩
theorem first_some {α : Type} {h : Nat → Nat → Option α} {n : Nat} {p : Nat × Nat × α} (e : first h n = some p) : p.1 < p.2.1 ∧ p.2.1 < n ∧ h p.1 p.2.1 = some p.2.2 := (fAll_some e).2
theorem fRow_none {α : Type} {h : Nat → Nat → Option α} {a : Nat} : ∀ {r : List Nat}, fRow h a r = none → ∀ b ∈ r, h a b = none
 | [], _, b, hb => by simp at hb
 | c :: r, e, b, hb => by
  unfold fRow at e
  cases hh : h a c with
  | some x => rw [hh] at e; simp at e
  | none =>
   rw [hh] at e
   rcases List.mem_cons.1 hb with rfl | hb
   ·exact hh
   ·exact fRow_none e b hb
theorem fAll_none {α : Type} {h : Nat → Nat → Option α} {n : Nat} : ∀ {r : List Nat}, fAll h n r = none → ∀ a ∈ r, ∀ b, a < b → b < n → h a b = none
 | [], _, a, ha => by simp at ha
 | c :: r, e, a, ha => by
  unfold fAll at e
  rw [Option.or_eq_none_iff] at e
  rcases List.mem_cons.1 ha with rfl | ha
  ·exact fun b h1 h2 => fRow_none e.1 b (by rw [List.mem_range'_1]; omega)
  ·exact fAll_none e.2 a ha
theorem first_none {α : Type} {h : Nat → Nat → Option α} {n : Nat} (e : first h n = none) {a b : Nat} (h1 : a < b) (h2 : b < n) : h a b = none :=
 fAll_none e a (by rw [List.mem_range'_1]; omega) b h1 h2
def hitQ (A B : List Arc) : Option Rat := (meetL (nrm (vals A)) (nrm (vals B))).head?.map Prod.fst
def both (A B : List Arc) (y : R) : Bool := A.any (inA (rv y)) && B.any (inA (rv y))
def hitR (A B : List Arc) : Option R := ((marksR [A, B]).take ((marksR [A, B]).length - 1)).find? (both A B)
theorem memL_head {q : Q2} {M : List Q2} (hp : Pos (q :: M)) (ha : Apart (q :: M)) {x : Rat} (hx : memL x (q :: M)) : q.1 ≤ x := by
 obtain ⟨a, h1, h2, h3⟩ := hx
 rcases List.mem_cons.1 h1 with rfl | h1
 ·exact h2
 ·have h4 := (List.pairwise_cons.1 ha).1 a h1
  have h5 := hp q (by simp)
  grind
theorem hit_eq {A B : List Arc} (hA : chk [A] = 0) (hB : chk [B] = 0) : hitQ A B = (hitR A B).map rv := by
 obtain ⟨pA, iA⟩ := chk_val hA
 obtain ⟨pB, iB⟩ := chk_val hB
 obtain ⟨a1, a2, a3⟩ := nrm_ok pA
 obtain ⟨b1, b2, b3⟩ := nrm_ok pB
 have hb : ∀ y, both A B y = true ↔ memL (rv y) (vals A) ∧ memL (rv y) (vals B) := fun y => by
  unfold both; rw [any_mem, any_mem, Bool.and_eq_true, decide_eq_true_eq, decide_eq_true_eq]
 have hm : ∀ x, memL x (meetL (nrm (vals A)) (nrm (vals B))) ↔ memL x (vals A) ∧ memL x (vals B) := fun x => by rw [mem_meetL, a3, b3]
 have pM := pos_meetL (nrm (vals A)) (nrm (vals B))
 have aM := apart_meetL a2 b2
 obtain ⟨sA, sM⟩ := mkQ_asc [A, B]
 obtain ⟨S, hS⟩ : ∃ S, S = marksR [A, B] := ⟨_, rfl⟩
 have eS : mkQ [A, B] = S.map rv := by rw [hS]; rfl
 rw [eS] at sA sM
 unfold hitQ hitR
 rw [← hS]
 cases hM : meetL (nrm (vals A)) (nrm (vals B)) with
 | nil =>
  rw [hM] at hm
  have hn : (S.take (S.length - 1)).find? (both A B) = none := by
   rw [List.find?_eq_none]
   intro y hy h
   obtain ⟨a, h1, _⟩ := (hm (rv y)).2 ((hb y).1 h)
   simp at h1
  rw [hn]; rfl
 | cons q M =>
  rw [hM] at hm pM aM
  have hq := pM q (by simp)
  have q1 : memL q.1 (q :: M) := ⟨q, by simp, Rat.le_refl, hq⟩
  have q2 := (hm q.1).1 q1
  have q3 := (in01_mem iA q2.1).2
  have q4 : q.1 ∈ S.map rv := by
   rw [sM]
   have hqm : q ∈ meetL (nrm (vals A)) (nrm (vals B)) := by rw [hM]; simp
   obtain ⟨p, hp, hqm⟩ := List.mem_flatMap.1 hqm
   obtain ⟨p', hp', hqm⟩ := List.mem_flatMap.1 hqm
   have e1 := (in_meet1 hqm).1
   obtain ⟨⟨c, c1, c2⟩, _⟩ := nrm_ends (vals A) p hp
   obtain ⟨⟨d, d1, d2⟩, _⟩ := nrm_ends (vals B) p' hp'
   obtain ⟨x, x1, rfl⟩ := List.mem_map.1 c1
   obtain ⟨y, y1, rfl⟩ := List.mem_map.1 d1
   refine .inr ?_
   unfold mxQ at e1
   split at e1
   ·exact ⟨A, by simp, x, x1, .inl (by rw [e1, c2]; rfl)⟩
   ·exact ⟨B, by simp, y, y1, .inl (by rw [e1, d2]; rfl)⟩
  obtain ⟨y, y1, y2⟩ := List.mem_map.1 q4
  have y3 : both A B y = true := (hb y).2 (by rw [y2]; exact q2)
  have y4 : y ∈ S.take (S.length - 1) := by
   have h1 : (1 : Rat) ∈ S.map rv := (sM 1).2 (.inl (.inr rfl))
   obtain ⟨z, z1, z2⟩ := List.mem_map.1 h1
   obtain ⟨i, hi, ei⟩ := List.getElem_of_mem y1
   obtain ⟨j, hj, ej⟩ := List.getElem_of_mem z1
   have hij : i < j := by
    rcases Nat.lt_trichotomy i j with h | h | h
    ·exact h
    ·subst h; rw [ei] at ej; subst ej; rw [y2] at z2; rw [z2] at q3; exact absurd q3 (Rat.lt_irrefl)
    ·have := List.pairwise_iff_getElem.1 sA j i (by simpa using hj) (by simpa using hi) h
     rw [List.getElem_map, List.getElem_map, ei, ej, y2, z2] at this
     grind
   rw [List.mem_take_iff_getElem]
   exact ⟨i, by omega, ei⟩
  cases hf : (S.take (S.length - 1)).find? (both A B) with
  | none => exact absurd y3 (by rw [List.find?_eq_none] at hf; exact hf y y4)
  | some z =>
   obtain ⟨z1, as, bs, z2, z3⟩ := List.find?_eq_some_iff_append.1 hf
   have g1 : q.1 ≤ rv z := memL_head pM aM ((hm _).2 ((hb z).1 z1))
   have g2 : rv z ≤ q.1 := by
    rw [z2] at y4
    rcases List.mem_append.1 y4 with h | h
    ·have := z3 y h; rw [y3] at this; simp at this
    ·rcases List.mem_cons.1 h with rfl | h
     ·rw [y2]; exact Rat.le_refl
     ·have s1 : ((S.take (S.length - 1)).map rv).Pairwise (· < ·) := by rw [List.map_take]; exact sA.sublist (List.take_sublist _ _)
      rw [z2, List.map_append, List.map_cons] at s1
      have := (List.pairwise_cons.1 (List.pairwise_append.1 s1).2.1).1 (rv y) (List.mem_map.2 ⟨y, h, rfl⟩)
      rw [y2] at this
      exact Rat.le_of_lt this
   simp only [List.head?_cons, Option.map_some, Option.some.injEq]
   exact Rat.le_antisymm g1 g2
theorem hit_some {A B : List Arc} (hA : chk [A] = 0) (hB : chk [B] = 0) {x : Rat} (h : hitQ A B = some x) : memL x (vals A) ∧ memL x (vals B) := by
 obtain ⟨pA, iA⟩ := chk_val hA
 obtain ⟨pB, iB⟩ := chk_val hB
 have hm := (mem_meetL (x := x) (a := nrm (vals A)) (b := nrm (vals B))).1
 rw [(nrm_ok pA).2.2, (nrm_ok pB).2.2] at hm
 refine hm ?_
 unfold hitQ at h
 have pM := pos_meetL (nrm (vals A)) (nrm (vals B))
 cases hM : meetL (nrm (vals A)) (nrm (vals B)) with
 | nil => rw [hM] at h; simp at h
 | cons q M =>
  rw [hM] at h pM
  simp only [List.head?_cons, Option.map_some, Option.some.injEq] at h
  subst h
  exact ⟨q, by simp, Rat.le_refl, pM q (by simp)⟩
theorem hit_none {A B : List Arc} (hA : chk [A] = 0) (hB : chk [B] = 0) (h : hitQ A B = none) (x : Rat) : ¬ (memL x (vals A) ∧ memL x (vals B)) := by
 obtain ⟨pA, iA⟩ := chk_val hA
 obtain ⟨pB, iB⟩ := chk_val hB
 intro hx
 have hm := (mem_meetL (x := x) (a := nrm (vals A)) (b := nrm (vals B))).2 ⟨((nrm_ok pA).2.2 x).2 hx.1, ((nrm_ok pB).2.2 x).2 hx.2⟩
 unfold hitQ at h
 cases hM : meetL (nrm (vals A)) (nrm (vals B)) with
 | nil => rw [hM] at hm; obtain ⟨a, h1, _⟩ := hm; simp at h1
 | cons q M => rw [hM] at h; simp at h
end Go.Num
end
section
set_option linter.unusedVariables false
set_option linter.unusedSimpArgs false
set_option maxRecDepth 100000
namespace Go.Num
def hq (L : List (List Arc)) (a b : Nat) : Option Rat := hitQ (L.getD a []) (L.getD b [])
def clQ (L : List (List Arc)) : Option (Nat × Nat × Rat) := if tcode L = 0 then first (hq L) L.length else none
def fstN {α : Type} (r : Option (Nat × Nat × α)) : Nat := match r with | some p => p.1 | none => 0
def sndN {α : Type} (r : Option (Nat × Nat × α)) : Nat := match r with | some p => p.2.1 | none => 0
def thrD {α : Type} (d : α) (r : Option (Nat × Nat × α)) : α := match r with | some p => p.2.2 | none => d
end Go.Num
namespace Go.Abs
open Go.Num
variable {P : Program} {Γ : Nat → Spec}
def cClash_G (tE m : Nat) (l : List AV) (K : AV → Prop) : Prop :=
 match l with
 | [a] => onL (fun L => (tcode L = 0 → ∀ l ∈ L, l.length ≤ m) ∧ (∀ l ∈ L, okAs 10000000 l) ∧ K (.tup [.one (.lit (.int .i64 (fstN (clQ L) : Nat))), .one (.lit (.int .i64 (sndN (clQ L) : Nat))), .agg [cb (rcan (thrD 0 (clQ L))), cn (rcan (thrD 0 (clQ L))), cd (rcan (thrD 0 (clQ L)))], .one (.lit (.bool (clQ L).isSome)), errV tE (tcode L)])) a
 | _ => False
theorem cClash_Ge (tE m : Nat) (a : AV) (K : AV → Prop) : cClash_G tE m [a] K = (onL (fun L => (tcode L = 0 → ∀ l ∈ L, l.length ≤ m) ∧ (∀ l ∈ L, okAs 10000000 l) ∧ K (.tup [.one (.lit (.int .i64 (fstN (clQ L) : Nat))), .one (.lit (.int .i64 (sndN (clQ L) : Nat))), .agg [cb (rcan (thrD 0 (clQ L))), cn (rcan (thrD 0 (clQ L))), cd (rcan (thrD 0 (clQ L)))], .one (.lit (.bool (clQ L).isSome)), errV tE (tcode L)])) a) := propext Iff.rfl
@[congr] theorem cClash_Gc (tE m : Nat) {K : AV → Prop} {l l' : List AV} (h : l = l') : cClash_G tE m l K = cClash_G tE m l' K := by subst h; rfl
attribute [go_sem] cClash_Ge
attribute [go_sem ↓] cClash_Ge
theorem cClash_good (tE m : Nat) : Good (cClash_G tE m) := good_of fun as => by
 unfold cClash_G
 split
 ·exact (g_onL fun _ => (.and fun _ => (.and fun _ => (.ret _))))
 ·exact .of fun K hk => hk.elim
def ac_chart_Clash (f0 f1 f2 : Nat) : AC := (.seq (.ops false [.m 2 (.i 0), .m 3 (.i 0), .u 4 (.alloc [(.lit (.bool false)), .emp, .emp]), .m 5 .fa, .m 6 (.c (.one (.lit .nilIface)))])
 (.fg [0, 4] (.seq (.seq (.ops false [.m 11 (.t 0), .u 12 (.call f0 [(.t 11)]), .m 7 (.t 12)])
 (.fg [0, 4, 7] (.seq (.ops false [.m 13 (.t 7), .u 14 (.binn .neq (.t 13) (.c (.one (.lit .nilIface))))])
 (.fg [0, 4, 7, 14] (.cond (.t 14) (.seq (.ops false [.u 15 (.build [.z [(.lit (.bool false)), .emp, .emp]]), .m 16 (.t 7), .m 2 (.i 0), .m 3 (.i 0), .n (.st none 3 (.t 4) (.t 15)), .m 5 .fa, .m 6 (.t 16)])
 .ret) .skip)))))
 (.fg [0, 4] (.seq (.seq (.ops false [.m 17 (.t 0), .u 18 (.len (.t 17)), .m 19 (.i 0)])
 (.fg [0, 4, 18, 19] (.block 0 (.loop (.seq (.ops false [.u 20 (.bin .lss (.t 19) (.t 18))])
 (.fg [0, 4, 18, 19, 20] (.seq (.cond (.t 20) .skip (.exit 0))
 (.fg [0, 4, 18, 19] (.seq (.block 1 (.seq (.ops false [.m 21 (.t 19), .m 8 (.t 21)])
 (.fg [0, 4, 8, 18, 19] (.seq (.ops false [.m 22 (.t 8), .u 23 (.bin .add (.t 22) (.i 1)), .m 9 (.t 23)])
 (.fg [0, 4, 8, 9, 18, 19] (.block 2 (.loop (.seq (.seq (.ops false [.m 24 (.t 9), .m 25 (.t 0), .u 26 (.len (.t 25)), .u 27 (.bin .lss (.t 24) (.t 26))])
 (.fg [0, 4, 8, 9, 18, 19, 27] (.cond (.t 27) .skip (.exit 2))))
 (.fg [0, 4, 8, 9, 18, 19] (.seq (.block 3 (.seq (.ops true [.m 30 (.t 0), .m 31 (.t 8), .u 32 (.idx 1 (.t 30) (.t 31)), .u 33 (.ld none 1 false (.t 32)), .u 34 (.call f1 [(.t 33)]), .m 35 (.t 0), .m 36 (.t 9), .u 37 (.idx 1 (.t 35) (.t 36)), .u 38 (.ld none 1 false (.t 37)), .u 39 (.call f1 [(.t 38)]), .u 40 (.call f2 [(.t 34), (.t 39)]), .m 10 (.t 40)])
 (.fg [0, 4, 8, 9, 10, 18, 19] (.seq (.ops false [.m 41 (.t 10), .u 42 (.len (.t 41)), .u 43 (.bin .gtr (.t 42) (.i 0))])
 (.fg [0, 4, 8, 9, 10, 18, 19, 43] (.cond (.t 43) (.seq (.ops true [.m 44 (.t 8), .m 45 (.t 9), .m 46 (.t 10), .u 47 (.idx 6 (.t 46) (.i 0)), .u 48 (.fa 0 (.t 47)), .u 49 (.ld none 3 true (.t 48)), .m 2 (.t 44), .m 3 (.t 45), .n (.st none 3 (.t 4) (.t 49)), .m 5 .tr, .m 6 (.c (.one (.lit .nilIface)))])
 .ret) .skip))))))
 (.fg [0, 4, 8, 9, 18, 19] (.ops false [.m 28 (.t 9), .u 29 (.bin .add (.t 28) (.i 1)), .m 9 (.t 29)]))))))))))))
 (.fg [0, 4, 18, 19] (.ops false [.u 50 (.bin .add (.t 19) (.i 1)), .m 19 (.t 50)])))))))))))
 (.fg [4] (.seq (.ops false [.u 51 (.build [.z [(.lit (.bool false)), .emp, .emp]]), .m 2 (.i 0), .m 3 (.i 0), .n (.st none 3 (.t 4) (.t 51)), .m 5 .fa, .m 6 (.c (.one (.lit .nilIface)))])
 .ret)))))))
theorem cClash_sound (hΓ : Holds P Γ) {f ft fn fm tE m : Nat} (hm : m ≤ 1000) (ht : Γ ft = .dat false (ctracked_G tE)) (hn : Γ fn = .dat false (cnorm_G m)) (hme : Γ fm = .dat false cmeet_G) (hc : check P f = some (52, (ac_chart_Clash ft fn fm).strip, [.tmp 2, .tmp 3, .cell 4 3 true, .tmp 5, .tmp 6])) : Sound P f (.dat false (cClash_G tE m)) := by
 refine sound_dat hc (cClash_good tE m) hΓ (fun args K hcl hfi hG => ?_)
 match args, hG with
 | [a], hG =>
  obtain ⟨L, rfl, hwL, hlm, hok, hK⟩ := hG
  refine ⟨by simp, ?_⟩
  have oo : ∀ z ∈ L, okAs 4294967296 z := fun z hz => okAs_mono (hok z hz) (by decide)
  by_cases h0 : tcode L = 0
  ·obtain ⟨h16, hch⟩ := tcode_0 h0
   have hlm' := hlm h0
   have e0 : clQ L = first (hq L) L.length := by unfold clQ; rw [if_pos h0]
   rw [e0, h0, errV_0] at hK
   obtain ⟨R, hR⟩ : ∃ R, R = first (hq L) L.length := ⟨_, rfl⟩
   rw [← hR] at hK
   simp only [go_sem, ac_chart_Clash, ht, hn, hme, h0, errV_0]
   refine ⟨hwL, oo, fun _ => ?_⟩
   refine wpA_loop (fun k : Nat => ⟨mkV [(0, lsA L), (4, .one (.ptr 4 1 0 0)), (18, .one (.lit (.int .i64 L.length))), (19, .one (.lit (.int .i64 k)))], mkH [(4, ⟨1, some ⟨[[.lit (.bool false), .emp, .emp]], 3, true⟩⟩)]⟩)
    (fun k => k ≤ L.length ∧ fAll (hq L) L.length (List.range' k (L.length - k)) = R) (fun k => L.length - k) 0 ?_ ?_ ?_
   ·exact weak_lit (by simp [okS, okV, okC, okL, okH, okB, okE, mkV_cons, mkV_nil, mkH_cons, mkH_nil, wsA, ws, lsA]) ⟨okB_z, trivial⟩
   ·exact ⟨Nat.zero_le _, hR.symm⟩
   ·rintro i ⟨hi, hRi⟩
    by_cases hlt : i < L.length
    ·rw [range_cons hlt, fAll] at hRi
     simp only [go_sem, hn, hme, hlt]
     refine ⟨by omega, ?_⟩
     refine wpA_loop (fun k : Nat => ⟨mkV [(0, lsA L), (4, .one (.ptr 4 1 0 0)), (8, .one (.lit (.int .i64 i))), (9, .one (.lit (.int .i64 k))), (18, .one (.lit (.int .i64 L.length))), (19, .one (.lit (.int .i64 i)))], mkH [(4, ⟨1, some ⟨[[.lit (.bool false), .emp, .emp]], 3, true⟩⟩)]⟩)
      (fun k => i + 1 ≤ k ∧ k ≤ L.length ∧ (fRow (hq L) i (List.range' k (L.length - k))).or (fAll (hq L) L.length (List.range' (i + 1) (L.length - (i + 1)))) = R) (fun k => L.length - k) (i + 1) ?_ ?_ ?_
     ·exact weak_lit (by simp [okS, okV, okC, okL, okH, okB, okE, mkV_cons, mkV_nil, mkH_cons, mkH_nil, wsA, ws, lsA]) ⟨okB_z, trivial⟩
     ·exact ⟨Nat.le_refl _, hlt, hRi⟩
     ·rintro j ⟨hij, hj, hRj⟩
      by_cases hlt2 : j < L.length
      ·obtain ⟨A, hA⟩ : ∃ A, L.getD i [] = A := ⟨_, rfl⟩
       obtain ⟨B, hB⟩ : ∃ B, L.getD j [] = B := ⟨_, rfl⟩
       have hA0 : L[i]? = some A := by rw [← hA, List.getD_eq_getElem?_getD, List.getElem?_eq_getElem hlt]; rfl
       have hB0 : L[j]? = some B := by rw [← hB, List.getD_eq_getElem?_getD, List.getElem?_eq_getElem hlt2]; rfl
       have mA := List.mem_of_getElem? hA0
       have mB := List.mem_of_getElem? hB0
       have nA := nrm_len (vals A)
       have nB := nrm_len (vals B)
       have lA := hlm' A mA
       have lB := hlm' B mB
       simp only [vals, List.length_map] at nA nB
       obtain ⟨M, hM⟩ : ∃ M, meetL (nrm (vals A)) (nrm (vals B)) = M := ⟨_, rfl⟩
       have hhq : hq L i j = M.head?.map Prod.fst := by unfold hq hitQ; rw [hA, hB, hM]
       rw [range_cons hlt2, fRow, hhq] at hRj
       cases M with
       | nil =>
        simp only [List.head?_nil, Option.map_none] at hRj
        simp only [go_sem, hn, hme, hlt, hlt2, hA, hB, hM, vals_can, List.map_nil]
        exact fun _ => ⟨okAs_WLA (oo A mA), lA, oo A mA, chk_pos (hch A mA), okAs_WLA (oo B mB), lB, oo B mB, chk_pos (hch B mB), WLA_cans _, WLA_cans _, by simp only [vals]; omega, by simp only [vals]; omega, okAs_mono (okAs_nrm (hok A mA)) (by decide), okAs_mono (okAs_nrm (hok B mB)) (by decide), by omega, j + 1, weak_lit (by simp [okS, okV, okC, okL, okH, okB, okE, mkV_cons, mkV_nil, mkH_cons, mkH_nil, wsA, ws, lsA]) ⟨okB_z, trivial⟩, ⟨by omega, by omega, hRj⟩, by omega⟩
       | cons q M =>
        simp only [List.head?_cons, Option.map_some, Option.some_or] at hRj
        subst hRj
        have hpos : 0 < M.length + 1 := Nat.succ_pos _
        simp only [go_sem, hn, hme, hlt, hlt2, hA, hB, hM, vals_can, aC_eq, acan, hpos]
        refine fun _ => ⟨okAs_WLA (oo A mA), lA, oo A mA, chk_pos (hch A mA), okAs_WLA (oo B mB), lB, oo B mB, chk_pos (hch B mB), WLA_cans _, WLA_cans _, by simp only [vals]; omega, by simp only [vals]; omega, okAs_mono (okAs_nrm (hok A mA)) (by decide), okAs_mono (okAs_nrm (hok B mB)) (by decide), fun _ => ⟨by omega, ?_⟩⟩
        simp only [fstN, sndN, thrD, Option.isSome_some] at hK
        exact hK
      ·rw [range_nil (by omega), fRow, Option.none_or] at hRj
       simp only [go_sem, hn, hme, hlt, hlt2]
       exact fun _ => ⟨by omega, i + 1, weak_lit (by simp [okS, okV, okC, okL, okH, okB, okE, mkV_cons, mkV_nil, mkH_cons, mkH_nil, wsA, ws, lsA]) ⟨okB_z, trivial⟩, ⟨hlt, hRj⟩, by omega⟩
    ·rw [range_nil (by omega), fAll] at hRi
     subst hRi
     simp only [go_sem, hn, hme, hlt]
     simp only [fstN, sndN, thrD, rcan_zero, Option.isSome_none] at hK
     exact hK
  ·have e0 : clQ L = none := by unfold clQ; rw [if_neg h0]
   rw [e0, errV_s tE h0] at hK
   simp only [fstN, sndN, thrD, rcan_zero, Option.isSome_none] at hK
   simp only [go_sem, ac_chart_Clash, ht, hn, hme, h0, errV_s tE h0]
   exact ⟨hwL, oo, hK⟩
end Go.Abs
end
section
set_option linter.unusedVariables false
namespace Go.Num
open Go.Abs
theorem two_of {p : List Arc → Bool} : ∀ {L : List (List Arc)}, 2 ≤ L.countP p → ∃ i j, i < j ∧ j < L.length ∧ p (L.getD i []) = true ∧ p (L.getD j []) = true
 | [], h => by simp at h
 | l :: L, h => by
  rw [List.countP_cons] at h
  by_cases hl : p l = true
  ·rw [if_pos hl] at h
   obtain ⟨z, hz, hp⟩ := List.countP_pos_iff.1 (show 0 < L.countP p by omega)
   obtain ⟨j, hj, rfl⟩ := List.getElem_of_mem hz
   refine ⟨0, j + 1, by omega, by simp; omega, by simpa using hl, ?_⟩
   rw [List.getD_eq_getElem?_getD, List.getElem?_cons_succ, List.getElem?_eq_getElem hj]; exact hp
  ·rw [if_neg hl] at h
   obtain ⟨i, j, h1, h2, h3, h4⟩ := two_of h
   exact ⟨i + 1, j + 1, by omega, by simp; omega, by simpa using h3, by simpa using h4⟩
theorem few_flat {L : List (List Arc)} {n : Nat} (h : ∀ l ∈ L, l.length ≤ n) : L.flatten.length ≤ L.length * n := by
 induction L with
 | nil => simp
 | cons l L ih =>
  have h1 := h l (by simp)
  have h2 := ih fun m hm => h m (by simp [hm])
  simp only [List.flatten_cons, List.length_append, List.length_cons, Nat.add_mul, Nat.one_mul]
  omega
theorem val_flat {L : List (List Arc)} (h : ∀ l ∈ L, chk [l] = 0) : Pos (vals L.flatten) ∧ In01 (vals L.flatten) :=
 ⟨fun q hq => by
  obtain ⟨x, hx, rfl⟩ := List.mem_map.1 hq
  obtain ⟨l, hl, hx⟩ := List.mem_flatten.1 hx
  exact (chk_val (h l hl)).1 _ (List.mem_map.2 ⟨x, hx, rfl⟩), fun q hq => by
  obtain ⟨x, hx, rfl⟩ := List.mem_map.1 hq
  obtain ⟨l, hl, hx⟩ := List.mem_flatten.1 hx
  exact (chk_val (h l hl)).2 _ (List.mem_map.2 ⟨x, hx, rfl⟩)⟩
theorem ok_flat {b : Nat} {L : List (List Arc)} (h : ∀ l ∈ L, okAs b l) : okAs b L.flatten := fun z hz => by
 obtain ⟨l, hl, hz⟩ := List.mem_flatten.1 hz
 exact h l hl z hz
theorem mem_flat {L : List (List Arc)} {x : Rat} : memL x (vals L.flatten) ↔ ∃ l ∈ L, memL x (vals l) := by
 constructor
 ·rintro ⟨q, hq, hx⟩
  obtain ⟨z, hz, rfl⟩ := List.mem_map.1 hq
  obtain ⟨l, hl, hz⟩ := List.mem_flatten.1 hz
  exact ⟨l, hl, av z, List.mem_map.2 ⟨z, hz, rfl⟩, hx⟩
 ·rintro ⟨l, hl, q, hq, hx⟩
  obtain ⟨z, hz, rfl⟩ := List.mem_map.1 hq
  exact ⟨av z, List.mem_map.2 ⟨z, List.mem_flatten.2 ⟨l, hl, hz⟩, rfl⟩, hx⟩
theorem getD_in {L : List (List Arc)} {i : Nat} (h : i < L.length) : L.getD i [] ∈ L := by
 rw [List.getD_eq_getElem?_getD, List.getElem?_eq_getElem h]; exact List.getElem_mem _
structure FreeFacts (L : List (List Arc)) (x : Rat) (N : List Q2) (r : Option (Nat × Nat × Rat)) (q : Rat) : Prop where
 few : L.flatten.length ≤ 120
 hn : notL (nrm (vals L.flatten)) = N
 hr : clQ L = r
 at' : thrD 0 r = q
 okN : okAs 4294967296 ((res 0 N).map acan)
 free : ¬ 64 < N.length → chk [N.map acan] = 0 ∧ res 0 N = N ∧ (N.map acan).any (inA x) = decide (L.countP (fun l => l.any (inA x)) = 0)
 hnone : r = none → L.countP (fun l => l.any (inA x)) < 2
 hsome : ∀ p, r = some p → p.1 < p.2.1 ∧ p.2.1 < L.length ∧ (L.getD p.1 []).any (inA (frac q)) = true ∧ (L.getD p.2.1 []).any (inA (frac q)) = true
 rzq : rz q ≤ 1048576
theorem rz_hit {A B : List Arc} {b : Nat} {x : Rat} (h1 : okAs b A) (h2 : okAs b B) (h : hitQ A B = Option.some x) : rz x ≤ b := by
 unfold hitQ at h
 cases hM : meetL (nrm (vals A)) (nrm (vals B)) with
 | nil => rw [hM] at h; simp at h
 | cons q M =>
  rw [hM] at h
  simp only [List.head?_cons, Option.map_some, Option.some.injEq] at h
  subst h
  have hq : q ∈ meetL (nrm (vals A)) (nrm (vals B)) := by rw [hM]; simp
  obtain ⟨p, hp, hq⟩ := List.mem_flatMap.1 hq
  obtain ⟨p', hp', hq⟩ := List.mem_flatMap.1 hq
  rw [(in_meet1 hq).1]
  exact rz_mx (rzQ_nrm (rzQ_vals h1) p hp).1 (rzQ_nrm (rzQ_vals h2) p' hp').1
theorem freeFacts {L : List (List Arc)} {x : Rat} (hx0 : 0 ≤ x) (hx1 : x < 1) (hol : ∀ l ∈ L, okAs 1048576 l) (hch : ∀ l ∈ L, chk [l] = 0) (h20 : ∀ l ∈ L, l.length ≤ 20) (h6 : L.length ≤ 6) :
  FreeFacts L x (notL (nrm (vals L.flatten))) (clQ L) (thrD 0 (clQ L)) := by
 have h120 : L.flatten.length ≤ 120 := by
  have h1 := few_flat h20
  have h2 := Nat.mul_le_mul_right 20 h6
  omega
 obtain ⟨pf, jf⟩ := val_flat hch
 have h0 : tcode L = 0 := by unfold tcode; rw [if_neg (by omega)]; exact chk_all.2 hch
 have qN : NQ 1048576 121 (notL (nrm (vals L.flatten))) := nq_not (nq_nrm pf jf (by rw [vals, List.length_map]; exact h120) (rzQ_vals (ok_flat hol))) (by decide)
 have ecl : clQ L = first (hq L) L.length := by unfold clQ; rw [if_pos h0]
 refine ⟨h120, rfl, rfl, rfl, ?_, fun h64 => ?_, fun hn => ?_, fun p hp => ?_, ?_⟩
 ·have e : res 0 (notL (nrm (vals L.flatten))) = lim64 (notL (nrm (vals L.flatten))) := if_pos rfl
  rw [e]
  unfold lim64
  split
  ·intro z hz; simp at hz
  ·exact qN.ok (by decide)
 ·refine ⟨chk_can (by omega) qN.pos qN.in1, ?_, ?_⟩
  ·unfold res lim64; rw [if_pos rfl, if_neg h64]
  ·rw [any_can, decide_eq_decide, List.countP_eq_zero]
   obtain ⟨d, e, f⟩ := nrm_ok pf
   rw [(notL_ok d e (nrm_in pf jf)).1 x, f x, mem_flat]
   constructor
   ·rintro ⟨_, _, hn⟩ l hl h
    rw [any_mem, decide_eq_true_eq] at h
    exact hn ⟨l, hl, h⟩
   ·intro hn
    refine ⟨hx0, hx1, ?_⟩
    rintro ⟨l, hl, h⟩
    exact hn l hl (by rw [any_mem, decide_eq_true_eq]; exact h)
 ·rw [ecl] at hn
  rcases Nat.lt_or_ge (L.countP (fun l => l.any (inA x))) 2 with h | h
  ·exact h
  ·obtain ⟨i, j, h1, h2, h3, h4⟩ := two_of h
   rw [any_mem, decide_eq_true_eq] at h3 h4
   exact absurd ⟨h3, h4⟩ (hit_none (hch _ (getD_in (by omega))) (hch _ (getD_in h2)) (first_none hn h1 h2) x)
 ·rw [ecl] at hp
  obtain ⟨h1, h2, h3⟩ := first_some hp
  have cA := hch _ (getD_in (show p.1 < L.length by omega))
  have cB := hch _ (getD_in h2)
  obtain ⟨m1, m2⟩ := hit_some cA cB h3
  have e : thrD 0 (clQ L) = p.2.2 := by rw [ecl, hp]; rfl
  obtain ⟨b1, b2⟩ := in01_mem (chk_val cA).2 m1
  rw [e, frac_01 b1 b2]
  exact ⟨h1, h2, by rw [any_mem, decide_eq_true_eq]; exact m1, by rw [any_mem, decide_eq_true_eq]; exact m2⟩
 ·cases hc : clQ L with
  | none => simp only [thrD]; rw [rz_zero]; exact Nat.zero_le _
  | some p =>
   rw [ecl] at hc
   obtain ⟨h1, h2, h3⟩ := first_some hc
   exact rz_hit (hol _ (getD_in (show p.1 < L.length by omega))) (hol _ (getD_in h2)) h3
end Go.Num
end
section
set_option linter.unusedVariables false
set_option linter.unusedSimpArgs false
set_option maxRecDepth 100000
namespace Go.Abs
open Go.Num
variable {P : Program} {Γ : Nat → Spec}
theorem errV_4 (tE : Nat) : errV tE 4 = .one (.lit (.iface tE (.int .i64 4))) := errV_s tE (by decide)
theorem onErr_4 (tE : Nat) (k : Nat → Prop) : onErr tE k (.one (.lit (.iface tE (.int .i64 4)))) = k 4 := by rw [← errV_4]; exact onErr_e tE k 4
theorem int_44 : ((4 : Nat) : Int) = 4 := rfl
def lFree_G (l : List AV) (K : AV → Prop) : Prop :=
 match l with
 | [a, b] => onL (fun L => onR (fun y => (∀ l ∈ L, okAs 1048576 l) ∧ rl y ≤ 1048576 ∧ K (.one (.lit (.bool true)))) b) a
 | _ => False
theorem lFree_Ge (a b : AV) (K : AV → Prop) : lFree_G [a, b] K = (onL (fun L => onR (fun y => (∀ l ∈ L, okAs 1048576 l) ∧ rl y ≤ 1048576 ∧ K (.one (.lit (.bool true)))) b) a) := propext Iff.rfl
@[congr] theorem lFree_Gc {K : AV → Prop} {l l' : List AV} (h : l = l') : lFree_G l K = lFree_G l' K := by subst h; rfl
attribute [go_sem] lFree_Ge
attribute [go_sem ↓] lFree_Ge
theorem lFree_good : Good lFree_G := good_of fun as => by
 unfold lFree_G
 split
 ·exact (g_onL fun _ => (g_onR fun _ => (.and fun _ => (.and fun _ => (.ret _)))))
 ·exact .of fun K hk => hk.elim
def ac_linkworklaw54_ChartFree_c1 (f0 f1 f2 f3 f4 f5 f6 f7 : Nat) : AC := (.block 2 (.loop (.seq (.seq (.ops false [.m 67 (.t 14), .m 68 (.t 0), .u 69 (.len (.t 68)), .u 70 (.bin .lss (.t 67) (.t 69))])
 (.fg [0, 3, 6, 7, 8, 9, 10, 11, 13, 14, 70] (.cond (.t 70) .skip (.exit 2))))
 (.fg [0, 3, 6, 7, 8, 9, 10, 11, 13, 14] (.seq (.block 3 (.seq (.ops true [.m 74 (.t 0), .m 75 (.t 14), .u 76 (.idx 1 (.t 74) (.t 75)), .u 77 (.ld none 1 false (.t 76)), .u 78 (.ld none 3 true (.t 3)), .u 79 (.call f6 [(.t 77), (.t 78)]), .m 73 (.t 79), .u 80 (.ext 0 (.t 73)), .u 81 (.ext 1 (.t 73)), .m 15 (.t 80), .m 16 (.t 81)])
 (.fg [0, 3, 6, 7, 8, 9, 10, 11, 13, 14, 15, 16] (.seq (.seq (.ops false [.m 82 (.t 16), .u 83 (.binn .neq (.t 82) (.c (.one (.lit .nilIface))))])
 (.fg [0, 3, 6, 7, 8, 9, 10, 11, 13, 14, 15, 83] (.cond (.t 83) (.seq (.ops false [.m 4 .fa])
 .ret) .skip)))
 (.fg [0, 3, 6, 7, 8, 9, 10, 11, 13, 14, 15] (.seq (.ops false [.m 84 (.t 15)])
 (.fg [0, 3, 6, 7, 8, 9, 10, 11, 13, 14, 84] (.cond (.t 84) (.ops false [.m 85 (.t 13), .u 86 (.bin .add (.t 85) (.i 1)), .m 13 (.t 86)]) .skip))))))))
 (.fg [0, 3, 6, 7, 8, 9, 10, 11, 13, 14] (.ops false [.m 71 (.t 14), .u 72 (.bin .add (.t 71) (.i 1)), .m 14 (.t 72)])))))))
theorem ac_linkworklaw54_ChartFree_c1_e {f0 f1 f2 f3 f4 f5 f6 f7 : Nat} (Γ : Nat → Spec) (Q : Ex → S → Prop) (s : S) : wpA Γ (ac_linkworklaw54_ChartFree_c1 f0 f1 f2 f3 f4 f5 f6 f7) Q s = wpA Γ (.block 2 (.loop (.seq (.seq (.ops false [.m 67 (.t 14), .m 68 (.t 0), .u 69 (.len (.t 68)), .u 70 (.bin .lss (.t 67) (.t 69))])
 (.fg [0, 3, 6, 7, 8, 9, 10, 11, 13, 14, 70] (.cond (.t 70) .skip (.exit 2))))
 (.fg [0, 3, 6, 7, 8, 9, 10, 11, 13, 14] (.seq (.block 3 (.seq (.ops true [.m 74 (.t 0), .m 75 (.t 14), .u 76 (.idx 1 (.t 74) (.t 75)), .u 77 (.ld none 1 false (.t 76)), .u 78 (.ld none 3 true (.t 3)), .u 79 (.call f6 [(.t 77), (.t 78)]), .m 73 (.t 79), .u 80 (.ext 0 (.t 73)), .u 81 (.ext 1 (.t 73)), .m 15 (.t 80), .m 16 (.t 81)])
 (.fg [0, 3, 6, 7, 8, 9, 10, 11, 13, 14, 15, 16] (.seq (.seq (.ops false [.m 82 (.t 16), .u 83 (.binn .neq (.t 82) (.c (.one (.lit .nilIface))))])
 (.fg [0, 3, 6, 7, 8, 9, 10, 11, 13, 14, 15, 83] (.cond (.t 83) (.seq (.ops false [.m 4 .fa])
 .ret) .skip)))
 (.fg [0, 3, 6, 7, 8, 9, 10, 11, 13, 14, 15] (.seq (.ops false [.m 84 (.t 15)])
 (.fg [0, 3, 6, 7, 8, 9, 10, 11, 13, 14, 84] (.cond (.t 84) (.ops false [.m 85 (.t 13), .u 86 (.bin .add (.t 85) (.i 1)), .m 13 (.t 86)]) .skip))))))))
 (.fg [0, 3, 6, 7, 8, 9, 10, 11, 13, 14] (.ops false [.m 71 (.t 14), .u 72 (.bin .add (.t 71) (.i 1)), .m 14 (.t 72)]))))))) Q s := eq_of_heq (HEq.refl _)
attribute [go_sem ↓] ac_linkworklaw54_ChartFree_c1_e
attribute [go_sem] ac_linkworklaw54_ChartFree_c1_e
def ac_linkworklaw54_ChartFree_c2 (f0 f1 f2 f3 f4 f5 f6 f7 : Nat) : AC := (.seq (.ops true [.m 124 (.t 0), .m 125 (.t 8), .u 126 (.idx 1 (.t 124) (.t 125)), .u 127 (.ld none 1 false (.t 126)), .u 128 (.ld none 3 true (.t 10)), .u 129 (.call f6 [(.t 127), (.t 128)]), .m 123 (.t 129), .u 130 (.ext 0 (.t 123)), .u 131 (.ext 1 (.t 123)), .m 19 (.t 130), .m 20 (.t 131)])
 (.fg [0, 9, 10, 19, 20] (.seq (.ops true [.m 133 (.t 0), .m 134 (.t 9), .u 135 (.idx 1 (.t 133) (.t 134)), .u 136 (.ld none 1 false (.t 135)), .u 137 (.ld none 3 true (.t 10)), .u 138 (.call f6 [(.t 136), (.t 137)]), .m 132 (.t 138), .u 139 (.ext 0 (.t 132)), .u 140 (.ext 1 (.t 132)), .m 21 (.t 139), .m 22 (.t 140)])
 (.fg [19, 20, 21, 22] (.seq (.ops false [.m 141 (.t 20), .u 142 (.binn .eql (.t 141) (.c (.one (.lit .nilIface)))), .m 143 (.t 142), .w 144 143 true (.mv (.t 22)), .w 145 143 true (.binn .eql (.t 144) (.c (.one (.lit .nilIface)))), .u 146 (.pick (.t 143) (.t 145) .fa), .m 147 (.t 146), .w 148 147 true (.mv (.t 19)), .u 149 (.pick (.t 147) (.t 148) .fa), .m 150 (.t 149), .w 151 150 true (.mv (.t 21)), .u 152 (.pick (.t 150) (.t 151) .fa), .m 4 (.t 152)])
 .ret)))))
theorem ac_linkworklaw54_ChartFree_c2_e {f0 f1 f2 f3 f4 f5 f6 f7 : Nat} (Γ : Nat → Spec) (Q : Ex → S → Prop) (s : S) : wpA Γ (ac_linkworklaw54_ChartFree_c2 f0 f1 f2 f3 f4 f5 f6 f7) Q s = wpA Γ (.seq (.ops true [.m 124 (.t 0), .m 125 (.t 8), .u 126 (.idx 1 (.t 124) (.t 125)), .u 127 (.ld none 1 false (.t 126)), .u 128 (.ld none 3 true (.t 10)), .u 129 (.call f6 [(.t 127), (.t 128)]), .m 123 (.t 129), .u 130 (.ext 0 (.t 123)), .u 131 (.ext 1 (.t 123)), .m 19 (.t 130), .m 20 (.t 131)])
 (.fg [0, 9, 10, 19, 20] (.seq (.ops true [.m 133 (.t 0), .m 134 (.t 9), .u 135 (.idx 1 (.t 133) (.t 134)), .u 136 (.ld none 1 false (.t 135)), .u 137 (.ld none 3 true (.t 10)), .u 138 (.call f6 [(.t 136), (.t 137)]), .m 132 (.t 138), .u 139 (.ext 0 (.t 132)), .u 140 (.ext 1 (.t 132)), .m 21 (.t 139), .m 22 (.t 140)])
 (.fg [19, 20, 21, 22] (.seq (.ops false [.m 141 (.t 20), .u 142 (.binn .eql (.t 141) (.c (.one (.lit .nilIface)))), .m 143 (.t 142), .w 144 143 true (.mv (.t 22)), .w 145 143 true (.binn .eql (.t 144) (.c (.one (.lit .nilIface)))), .u 146 (.pick (.t 143) (.t 145) .fa), .m 147 (.t 146), .w 148 147 true (.mv (.t 19)), .u 149 (.pick (.t 147) (.t 148) .fa), .m 150 (.t 149), .w 151 150 true (.mv (.t 21)), .u 152 (.pick (.t 150) (.t 151) .fa), .m 4 (.t 152)])
 .ret))))) Q s := eq_of_heq (HEq.refl _)
attribute [go_sem ↓] ac_linkworklaw54_ChartFree_c2_e
attribute [go_sem] ac_linkworklaw54_ChartFree_c2_e
def ac_linkworklaw54_ChartFree_c3 (f0 f1 f2 f3 f4 f5 f6 f7 : Nat) : AC := (.seq (.seq (.ops false [.m 87 (.t 7), .u 88 (.binn .eql (.t 87) (.c (.one (.lit .nilIface))))])
 (.fg [0, 3, 6, 7, 8, 9, 10, 11, 13, 88] (.cond (.t 88) (.seq (.ops false [.m 90 (.t 6), .u 91 (.ld none 3 true (.t 3)), .u 92 (.call f6 [(.t 90), (.t 91)]), .m 89 (.t 92), .u 93 (.ext 0 (.t 89)), .u 94 (.ext 1 (.t 89)), .m 17 (.t 93), .m 18 (.t 94)])
 (.fg [0, 8, 9, 10, 11, 13, 17, 18] (.seq (.ops false [.m 95 (.t 18), .u 96 (.binn .neq (.t 95) (.c (.one (.lit .nilIface)))), .m 97 (.t 96), .w 98 97 false (.mv (.t 17)), .w 99 97 false (.mv (.t 13)), .w 100 97 false (.bin .eql (.t 99) (.i 0)), .w 101 97 false (.binb .neq (.t 98) (.t 100)), .u 102 (.pick (.t 97) .tr (.t 101))])
 (.fg [0, 8, 9, 10, 11, 13, 102] (.cond (.t 102) (.seq (.ops false [.m 4 .fa])
 .ret) .skip))))) (.seq (.ops false [.m 103 (.t 7), .u 104 (.call f7 [(.t 103), (.i 4)]), .u 105 (.un .not (.t 104))])
 (.fg [0, 8, 9, 10, 11, 13, 105] (.cond (.t 105) (.seq (.ops false [.m 4 .fa])
 .ret) .skip))))))
 (.fg [0, 8, 9, 10, 11, 13] (.seq (.seq (.ops false [.m 106 (.t 11), .u 107 (.un .not (.t 106))])
 (.fg [0, 8, 9, 10, 13, 107] (.cond (.t 107) (.seq (.ops false [.m 108 (.t 13), .u 109 (.bin .lss (.t 108) (.i 2)), .m 4 (.t 109)])
 .ret) .skip)))
 (.fg [0, 8, 9, 10] (.seq (.seq (.ops false [.m 110 (.t 8), .u 111 (.bin .lss (.t 110) (.i 0)), .m 112 (.t 111), .w 113 112 false (.mv (.t 9)), .w 114 112 false (.mv (.t 8)), .w 115 112 false (.bin .leq (.t 113) (.t 114)), .u 116 (.pick (.t 112) .tr (.t 115)), .m 117 (.t 116), .w 118 117 false (.mv (.t 9)), .w 119 117 false (.mv (.t 0)), .w 120 117 false (.len (.t 119)), .w 121 117 false (.bin .geq (.t 118) (.t 120)), .u 122 (.pick (.t 117) .tr (.t 121))])
 (.fg [0, 8, 9, 10, 122] (.cond (.t 122) (.seq (.ops false [.m 4 .fa])
 .ret) .skip)))
 (.fg [0, 8, 9, 10] (ac_linkworklaw54_ChartFree_c2 f0 f1 f2 f3 f4 f5 f6 f7)))))))
theorem ac_linkworklaw54_ChartFree_c3_e {f0 f1 f2 f3 f4 f5 f6 f7 : Nat} (Γ : Nat → Spec) (Q : Ex → S → Prop) (s : S) : wpA Γ (ac_linkworklaw54_ChartFree_c3 f0 f1 f2 f3 f4 f5 f6 f7) Q s = wpA Γ (.seq (.seq (.ops false [.m 87 (.t 7), .u 88 (.binn .eql (.t 87) (.c (.one (.lit .nilIface))))])
 (.fg [0, 3, 6, 7, 8, 9, 10, 11, 13, 88] (.cond (.t 88) (.seq (.ops false [.m 90 (.t 6), .u 91 (.ld none 3 true (.t 3)), .u 92 (.call f6 [(.t 90), (.t 91)]), .m 89 (.t 92), .u 93 (.ext 0 (.t 89)), .u 94 (.ext 1 (.t 89)), .m 17 (.t 93), .m 18 (.t 94)])
 (.fg [0, 8, 9, 10, 11, 13, 17, 18] (.seq (.ops false [.m 95 (.t 18), .u 96 (.binn .neq (.t 95) (.c (.one (.lit .nilIface)))), .m 97 (.t 96), .w 98 97 false (.mv (.t 17)), .w 99 97 false (.mv (.t 13)), .w 100 97 false (.bin .eql (.t 99) (.i 0)), .w 101 97 false (.binb .neq (.t 98) (.t 100)), .u 102 (.pick (.t 97) .tr (.t 101))])
 (.fg [0, 8, 9, 10, 11, 13, 102] (.cond (.t 102) (.seq (.ops false [.m 4 .fa])
 .ret) .skip))))) (.seq (.ops false [.m 103 (.t 7), .u 104 (.call f7 [(.t 103), (.i 4)]), .u 105 (.un .not (.t 104))])
 (.fg [0, 8, 9, 10, 11, 13, 105] (.cond (.t 105) (.seq (.ops false [.m 4 .fa])
 .ret) .skip))))))
 (.fg [0, 8, 9, 10, 11, 13] (.seq (.seq (.ops false [.m 106 (.t 11), .u 107 (.un .not (.t 106))])
 (.fg [0, 8, 9, 10, 13, 107] (.cond (.t 107) (.seq (.ops false [.m 108 (.t 13), .u 109 (.bin .lss (.t 108) (.i 2)), .m 4 (.t 109)])
 .ret) .skip)))
 (.fg [0, 8, 9, 10] (.seq (.seq (.ops false [.m 110 (.t 8), .u 111 (.bin .lss (.t 110) (.i 0)), .m 112 (.t 111), .w 113 112 false (.mv (.t 9)), .w 114 112 false (.mv (.t 8)), .w 115 112 false (.bin .leq (.t 113) (.t 114)), .u 116 (.pick (.t 112) .tr (.t 115)), .m 117 (.t 116), .w 118 117 false (.mv (.t 9)), .w 119 117 false (.mv (.t 0)), .w 120 117 false (.len (.t 119)), .w 121 117 false (.bin .geq (.t 118) (.t 120)), .u 122 (.pick (.t 117) .tr (.t 121))])
 (.fg [0, 8, 9, 10, 122] (.cond (.t 122) (.seq (.ops false [.m 4 .fa])
 .ret) .skip)))
 (.fg [0, 8, 9, 10] (ac_linkworklaw54_ChartFree_c2 f0 f1 f2 f3 f4 f5 f6 f7))))))) Q s := eq_of_heq (HEq.refl _)
attribute [go_sem ↓] ac_linkworklaw54_ChartFree_c3_e
attribute [go_sem] ac_linkworklaw54_ChartFree_c3_e
def ac_linkworklaw54_ChartFree_c4 (f0 f1 f2 f3 f4 f5 f6 f7 : Nat) : AC := (.seq (.ops false [.m 53 (.t 0), .u 54 (.call f4 [(.t 53)]), .m 52 (.t 54), .u 55 (.ext 0 (.t 52)), .u 56 (.ext 1 (.t 52)), .m 6 (.t 55), .m 7 (.t 56)])
 (.fg [0, 3, 6, 7] (.seq (.ops false [.m 58 (.t 0), .u 59 (.call f5 [(.t 58)]), .m 57 (.t 59), .u 60 (.ext 0 (.t 57)), .u 61 (.ext 1 (.t 57)), .u 62 (.ext 2 (.t 57)), .u 63 (.ext 3 (.t 57)), .u 64 (.ext 4 (.t 57)), .u 10 (.alloc [(.lit (.bool false)), .emp, .emp]), .m 8 (.t 60), .m 9 (.t 61), .n (.st none 3 (.t 10) (.t 62)), .m 11 (.t 63), .m 12 (.t 64)])
 (.fg [0, 3, 6, 7, 8, 9, 10, 11, 12] (.seq (.seq (.ops false [.m 65 (.t 12), .u 66 (.binn .neq (.t 65) (.c (.one (.lit .nilIface))))])
 (.fg [0, 3, 6, 7, 8, 9, 10, 11, 66] (.cond (.t 66) (.seq (.ops false [.m 4 .fa])
 .ret) .skip)))
 (.fg [0, 3, 6, 7, 8, 9, 10, 11] (.seq (.ops false [.m 13 (.i 0)])
 (.fg [0, 3, 6, 7, 8, 9, 10, 11, 13] (.seq (.seq (.ops false [.m 14 (.i 0)])
 (.fg [0, 3, 6, 7, 8, 9, 10, 11, 13, 14] (ac_linkworklaw54_ChartFree_c1 f0 f1 f2 f3 f4 f5 f6 f7)))
 (.fg [0, 3, 6, 7, 8, 9, 10, 11, 13] (ac_linkworklaw54_ChartFree_c3 f0 f1 f2 f3 f4 f5 f6 f7)))))))))))
theorem ac_linkworklaw54_ChartFree_c4_e {f0 f1 f2 f3 f4 f5 f6 f7 : Nat} (Γ : Nat → Spec) (Q : Ex → S → Prop) (s : S) : wpA Γ (ac_linkworklaw54_ChartFree_c4 f0 f1 f2 f3 f4 f5 f6 f7) Q s = wpA Γ (.seq (.ops false [.m 53 (.t 0), .u 54 (.call f4 [(.t 53)]), .m 52 (.t 54), .u 55 (.ext 0 (.t 52)), .u 56 (.ext 1 (.t 52)), .m 6 (.t 55), .m 7 (.t 56)])
 (.fg [0, 3, 6, 7] (.seq (.ops false [.m 58 (.t 0), .u 59 (.call f5 [(.t 58)]), .m 57 (.t 59), .u 60 (.ext 0 (.t 57)), .u 61 (.ext 1 (.t 57)), .u 62 (.ext 2 (.t 57)), .u 63 (.ext 3 (.t 57)), .u 64 (.ext 4 (.t 57)), .u 10 (.alloc [(.lit (.bool false)), .emp, .emp]), .m 8 (.t 60), .m 9 (.t 61), .n (.st none 3 (.t 10) (.t 62)), .m 11 (.t 63), .m 12 (.t 64)])
 (.fg [0, 3, 6, 7, 8, 9, 10, 11, 12] (.seq (.seq (.ops false [.m 65 (.t 12), .u 66 (.binn .neq (.t 65) (.c (.one (.lit .nilIface))))])
 (.fg [0, 3, 6, 7, 8, 9, 10, 11, 66] (.cond (.t 66) (.seq (.ops false [.m 4 .fa])
 .ret) .skip)))
 (.fg [0, 3, 6, 7, 8, 9, 10, 11] (.seq (.ops false [.m 13 (.i 0)])
 (.fg [0, 3, 6, 7, 8, 9, 10, 11, 13] (.seq (.seq (.ops false [.m 14 (.i 0)])
 (.fg [0, 3, 6, 7, 8, 9, 10, 11, 13, 14] (ac_linkworklaw54_ChartFree_c1 f0 f1 f2 f3 f4 f5 f6 f7)))
 (.fg [0, 3, 6, 7, 8, 9, 10, 11, 13] (ac_linkworklaw54_ChartFree_c3 f0 f1 f2 f3 f4 f5 f6 f7))))))))))) Q s := eq_of_heq (HEq.refl _)
attribute [go_sem ↓] ac_linkworklaw54_ChartFree_c4_e
attribute [go_sem] ac_linkworklaw54_ChartFree_c4_e
def ac_linkworklaw54_ChartFree_c5 (f0 f1 f2 f3 f4 f5 f6 f7 : Nat) : AC := (.seq (.seq (.ops false [.u 23 (.call f0 []), .u 24 (.un .not (.t 23)), .m 25 (.t 24), .w 26 25 false (.mv (.t 0)), .w 27 25 false (.len (.t 26)), .w 28 25 false (.bin .gtr (.t 27) (.i 6)), .u 29 (.pick (.t 25) .tr (.t 28)), .m 30 (.t 29), .w 31 30 false (.ld none 3 true (.t 3)), .w 32 30 false (.call f1 [(.t 31)]), .u 33 (.pick (.t 30) .tr (.t 32)), .m 34 (.t 33), .w 35 34 false (.ld none 3 true (.t 3)), .w 36 34 false (.call f2 [(.t 35)]), .w 37 34 false (.un .not (.t 36)), .u 38 (.pick (.t 34) .tr (.t 37))])
 (.fg [0, 3, 38] (.cond (.t 38) (.seq (.ops false [.u 39 (.call f0 []), .m 4 (.t 39)])
 .ret) .skip)))
 (.fg [0, 3] (.seq (.seq (.ops false [.m 5 (.i 0)])
 (.fg [0, 3, 5] (.block 0 (.loop (.seq (.seq (.ops false [.m 40 (.t 5), .m 41 (.t 0), .u 42 (.len (.t 41)), .u 43 (.bin .lss (.t 40) (.t 42))])
 (.fg [0, 3, 5, 43] (.cond (.t 43) .skip (.exit 0))))
 (.fg [0, 3, 5] (.seq (.block 1 (.seq (.ops false [.m 46 (.t 0), .m 47 (.t 5), .u 48 (.idx 1 (.t 46) (.t 47)), .u 49 (.ld none 1 false (.t 48)), .u 50 (.call f3 [(.t 49)]), .u 51 (.un .not (.t 50))])
 (.fg [0, 3, 5, 51] (.cond (.t 51) (.seq (.ops false [.m 4 .tr])
 .ret) .skip))))
 (.fg [0, 3, 5] (.ops false [.m 44 (.t 5), .u 45 (.bin .add (.t 44) (.i 1)), .m 5 (.t 45)])))))))))
 (.fg [0, 3] (ac_linkworklaw54_ChartFree_c4 f0 f1 f2 f3 f4 f5 f6 f7)))))
theorem ac_linkworklaw54_ChartFree_c5_e {f0 f1 f2 f3 f4 f5 f6 f7 : Nat} (Γ : Nat → Spec) (Q : Ex → S → Prop) (s : S) : wpA Γ (ac_linkworklaw54_ChartFree_c5 f0 f1 f2 f3 f4 f5 f6 f7) Q s = wpA Γ (.seq (.seq (.ops false [.u 23 (.call f0 []), .u 24 (.un .not (.t 23)), .m 25 (.t 24), .w 26 25 false (.mv (.t 0)), .w 27 25 false (.len (.t 26)), .w 28 25 false (.bin .gtr (.t 27) (.i 6)), .u 29 (.pick (.t 25) .tr (.t 28)), .m 30 (.t 29), .w 31 30 false (.ld none 3 true (.t 3)), .w 32 30 false (.call f1 [(.t 31)]), .u 33 (.pick (.t 30) .tr (.t 32)), .m 34 (.t 33), .w 35 34 false (.ld none 3 true (.t 3)), .w 36 34 false (.call f2 [(.t 35)]), .w 37 34 false (.un .not (.t 36)), .u 38 (.pick (.t 34) .tr (.t 37))])
 (.fg [0, 3, 38] (.cond (.t 38) (.seq (.ops false [.u 39 (.call f0 []), .m 4 (.t 39)])
 .ret) .skip)))
 (.fg [0, 3] (.seq (.seq (.ops false [.m 5 (.i 0)])
 (.fg [0, 3, 5] (.block 0 (.loop (.seq (.seq (.ops false [.m 40 (.t 5), .m 41 (.t 0), .u 42 (.len (.t 41)), .u 43 (.bin .lss (.t 40) (.t 42))])
 (.fg [0, 3, 5, 43] (.cond (.t 43) .skip (.exit 0))))
 (.fg [0, 3, 5] (.seq (.block 1 (.seq (.ops false [.m 46 (.t 0), .m 47 (.t 5), .u 48 (.idx 1 (.t 46) (.t 47)), .u 49 (.ld none 1 false (.t 48)), .u 50 (.call f3 [(.t 49)]), .u 51 (.un .not (.t 50))])
 (.fg [0, 3, 5, 51] (.cond (.t 51) (.seq (.ops false [.m 4 .tr])
 .ret) .skip))))
 (.fg [0, 3, 5] (.ops false [.m 44 (.t 5), .u 45 (.bin .add (.t 44) (.i 1)), .m 5 (.t 45)])))))))))
 (.fg [0, 3] (ac_linkworklaw54_ChartFree_c4 f0 f1 f2 f3 f4 f5 f6 f7))))) Q s := eq_of_heq (HEq.refl _)
attribute [go_sem ↓] ac_linkworklaw54_ChartFree_c5_e
attribute [go_sem] ac_linkworklaw54_ChartFree_c5_e
def ac_linkworklaw54_ChartFree (f0 f1 f2 f3 f4 f5 f6 f7 : Nat) : AC := (.seq (.ops false [.u 3 (.box 3 (.t 1)), .m 4 .fa])
 (.fg [0, 3] (ac_linkworklaw54_ChartFree_c5 f0 f1 f2 f3 f4 f5 f6 f7)))
set_option maxHeartbeats 4000000 in
theorem lFree_sound (hΓ : Holds P Γ) {f fw fl fr fv fF fC fh bI tE m : Nat} (hm : 200 ≤ m) (hw : Γ fw = .dat true lawake_G) (hl : Γ fl = .dat true rlong_G) (hr' : Γ fr = .dat true rvalid_G) (hv : Γ fv = .dat true rvalidL_G) (hF : Γ fF = .dat false (cFree_G tE m)) (hC : Γ fC = .dat false (cClash_G tE m)) (hh : Γ fh = .dat false (cHas_G tE)) (hbI : Γ bI = .dat true (bis_G tE))
  (hc : check P f = some (153, (ac_linkworklaw54_ChartFree fw fl fr fv fF fC fh bI).strip, [.tmp 4])) : Sound P f (.dat true lFree_G) := by
 refine sound_dat hc lFree_good hΓ (fun args K hcl hfi hG => ?_)
 match args, hG with
 | [a, b], hG =>
  obtain ⟨L, rfl, hwL, y, rfl, hy, hol, hyl, hK⟩ := hG
  refine ⟨by simp, ?_⟩
  have hol1 : ∀ l ∈ L, okAs 1073741824 l := fun l hl => okAs_mono (hol l hl) (by decide)
  have hol2 : ∀ l ∈ L, okAs 10000000 l := fun l hl => okAs_mono (hol l hl) (by decide)
  have hyl1 : rl y ≤ 4294967296 := by omega
  have hyl3 : rl y ≤ 1000000000 := by omega
  by_cases h6 : 6 < L.length
  ·have h6' : (6 : Int) < L.length := by omega
   simp only [go_sem, ac_linkworklaw54_ChartFree, hw, hl, hr', h6, h6', hy, hyl1]
   exact fun _ => hK
  have h6' : ¬ ((6 : Int) < L.length) := by omega
  cases hlg : longR y with
  | true =>
   simp only [go_sem, ac_linkworklaw54_ChartFree, hw, hl, hr', h6, h6', hy, hyl1, hlg]
   exact fun _ => hK
  | false =>
  cases hvy : vldR y with
  | false =>
   simp only [go_sem, ac_linkworklaw54_ChartFree, hw, hl, hr', h6, h6', hy, hyl1, hlg, hvy]
   exact fun _ => hK
  | true =>
  simp only [go_sem, ac_linkworklaw54_ChartFree, hw, hl, hr', h6, h6', hy, hyl1, hlg, hvy]
  intro _
  refine wpA_loop (fun k : Nat => ⟨mkV [(0, lsA L), (3, .one (.ptr 3 1 0 0)), (5, .one (.lit (.int .i64 k)))], mkH [(3, ⟨1, some ⟨[[cb y, cn y, cd y]], 3, true⟩⟩)]⟩) (fun k => k ≤ L.length ∧ ∀ i < k, validL (L.getD i []) = true) (fun k => L.length - k) 0 ?_ ?_ ?_
  ·exact weak_lit (by simp [okS, okV, okC, okL, okH, okB, okE, mkV_cons, mkV_nil, mkH_cons, mkH_nil, wsA, ws, lsA]) ⟨okB_r, trivial⟩
  ·exact ⟨Nat.zero_le _, fun i hi => absurd hi (Nat.not_lt_zero _)⟩
  ·rintro k ⟨hk, hvl⟩
   by_cases hlt : k < L.length
   ·obtain ⟨l, hl'⟩ : ∃ l, L.getD k [] = l := ⟨_, rfl⟩
    have hl0 : L[k]? = some l := by rw [← hl', List.getD_eq_getElem?_getD, List.getElem?_eq_getElem hlt]; rfl
    have hlm := List.mem_of_getElem? hl0
    cases hvv : validL l with
    | false =>
     simp only [go_sem, hv, hlt, hl', hvv]
     exact fun _ => ⟨hwL l hlm, hol1 l hlm, hK⟩
    | true =>
     simp only [go_sem, hv, hlt, hl', hvv]
     refine fun _ => ⟨hwL l hlm, hol1 l hlm, by omega, k + 1, weak_lit (by simp [okS, okV, okC, okL, okH, okB, okE, mkV_cons, mkV_nil, mkH_cons, mkH_nil, wsA, ws, lsA]) ⟨okB_r, trivial⟩, ⟨by omega, fun i hi => ?_⟩, by omega⟩
     rcases Nat.lt_succ_iff_lt_or_eq.1 hi with hi | rfl
     ·exact hvl i hi
     ·rw [hl']; exact hvv
   ·have hkk : k = L.length := by omega
    have hval : ∀ l ∈ L, validL l = true := fun l hl => by
     obtain ⟨i, hi, rfl⟩ := List.getElem_of_mem hl
     have := hvl i (by omega)
     rwa [List.getD_eq_getElem?_getD, List.getElem?_eq_getElem hi] at this
    have hch : ∀ l ∈ L, chk [l] = 0 := fun l hl => (validL_t (hval l hl)).1
    have h20 : ∀ l ∈ L, l.length ≤ 20 := fun l hl => (validL_t (hval l hl)).2
    have h0 : tcode L = 0 := by unfold tcode; rw [if_neg (by omega)]; exact chk_all.2 hch
    obtain ⟨N, r, at', hfr⟩ : ∃ N r at', FreeFacts L (frac (rv y)) N r at' := ⟨_, _, _, freeFacts (frac_ge _) (frac_lt _) hol hch h20 (by omega)⟩
    have hlm : ∀ l ∈ L, l.length ≤ m := fun l hl => by have := h20 l hl; omega
    have h120 : L.flatten.length ≤ m := by have := hfr.few; omega
    obtain ⟨v, hv7, hv8⟩ : ∃ v, errV tE (cod 0 N) = .one (.lit v) ∧ ((¬ 64 < N.length ∧ v = .nilIface) ∨ (64 < N.length ∧ v = .iface tE (.int .i64 4))) := by
     by_cases h : 64 < N.length
     ·have e : cod 0 N = 4 := by unfold cod code64; rw [if_pos rfl, if_pos h]
      rw [e, errV_s tE (by decide)]; exact ⟨_, rfl, .inr ⟨h, rfl⟩⟩
     ·have e : cod 0 N = 0 := by unfold cod code64; rw [if_pos rfl, if_neg h]
      rw [e, errV_0]; exact ⟨_, rfl, .inl ⟨h, rfl⟩⟩
    obtain ⟨F, hF'⟩ : ∃ F, (res 0 N).map acan = F := ⟨_, rfl⟩
    simp only [go_sem, hv, hlt, hF, hC, h0, hfr.hn, hF', hv7, hfr.hr, hfr.at', errV_0]
    refine fun _ => ⟨hwL, h120, hol2, hwL, hlm, hol2, ?_⟩
    obtain ⟨x, hx⟩ : ∃ x, frac (rv y) = x := ⟨_, rfl⟩
    rw [hx] at hfr
    have hcn : ∀ k, (L.take k).countP (fun l => l.any (inA x)) ≤ 6 := fun k => Nat.le_trans List.countP_le_length (by rw [List.length_take]; omega)
    refine wpA_loop (fun k : Nat => ⟨mkV [(0, lsA L), (3, .one (.ptr 3 1 0 0)), (6, asA F), (7, .one (.lit v)), (8, .one (.lit (.int .i64 (fstN r : Nat)))), (9, .one (.lit (.int .i64 (sndN r : Nat)))), (10, .one (.ptr 10 1 0 0)), (11, .one (.lit (.bool r.isSome))), (13, .one (.lit (.int .i64 ((L.take k).countP (fun l => l.any (inA x)) : Nat)))), (14, .one (.lit (.int .i64 k)))], mkH [(3, ⟨1, some ⟨[[cb y, cn y, cd y]], 3, true⟩⟩), (10, ⟨1, some ⟨[[cb (rcan at'), cn (rcan at'), cd (rcan at')]], 3, true⟩⟩)]⟩) (fun k => k ≤ L.length) (fun k => L.length - k) 0 ?_ ?_ ?_
    ·exact weak_lit (by simp [okS, okV, okC, okL, okH, okB, okE, mkV_cons, mkV_nil, mkH_cons, mkH_nil, wsA, ws, lsA, asA, as]) ⟨okB_r, okB_r, trivial⟩
    ·exact Nat.zero_le _
    ·intro j hj
     have hcj := hcn j
     by_cases hlt2 : j < L.length
     ·obtain ⟨l, hl'⟩ : ∃ l, L.getD j [] = l := ⟨_, rfl⟩
      have hl0 : L[j]? = some l := by rw [← hl', List.getD_eq_getElem?_getD, List.getElem?_eq_getElem hlt2]; rfl
      have hlm' := List.mem_of_getElem? hl0
      have hk0 := hch l hlm'
      have hst : (L.take (j + 1)).countP (fun l => l.any (inA x)) = (L.take j).countP (fun l => l.any (inA x)) + (if l.any (inA x) then 1 else 0) := by
       rw [List.take_add_one, hl0, Option.toList_some, List.countP_append, List.countP_singleton]
      cases hb : l.any (inA x) with
      | true =>
       rw [hb, if_pos rfl] at hst
       simp only [go_sem, hh, hlt2, hl', hy, hyl3, hk0, hvy, hx, hb, errV_0, Bool.true_and, Bool.and_true, forall_const, Bool.false_eq_true, Bool.true_eq_false, false_implies, and_true, true_and]
       exact fun _ => ⟨hwL l hlm', okAs_mono (hol l hlm') (by decide), by omega, by omega, j + 1, weak_lit (by simp only [okS, okV, okC, okL, okH, okB, okE, mkV_cons, mkV_nil, mkH_cons, mkH_nil, wsA, ws, lsA, asA, as]; rw [hst]; simp) ⟨okB_r, okB_r, trivial⟩, by omega, by omega⟩
      | false =>
       rw [hb, if_neg (by decide), Nat.add_zero] at hst
       simp only [go_sem, hh, hlt2, hl', hy, hyl3, hk0, hvy, hx, hb, errV_0, Bool.true_and, Bool.and_true, forall_const, Bool.false_eq_true, Bool.true_eq_false, false_implies, and_true, true_and]
       exact fun _ => ⟨hwL l hlm', okAs_mono (hol l hlm') (by decide), by omega, j + 1, weak_lit (by simp only [okS, okV, okC, okL, okH, okB, okE, mkV_cons, mkV_nil, mkH_cons, mkH_nil, wsA, ws, lsA, asA, as]; rw [hst]; simp) ⟨okB_r, okB_r, trivial⟩, by omega, by omega⟩
     ·have e : L.take j = L := List.take_of_length_le (by omega)
      obtain ⟨c, hcc⟩ : ∃ c, L.countP (fun l => l.any (inA x)) = c := ⟨_, rfl⟩
      have hc0 : decide ((c : Int) = 0) = decide (c = 0) := by rw [decide_eq_decide]; omega
      have hnone := hfr.hnone
      have hsome := hfr.hsome
      have hfree := hfr.free
      rw [hcc] at hnone hfree
      have oF : okAs 4294967296 F := by rw [← hF']; exact hfr.okN
      have hrz : rz at' ≤ 1000000000 := Nat.le_trans hfr.rzq (by decide)
      cases r with
      | none =>
       have h2 : (c : Int) < 2 := by have := hnone rfl; omega
       rcases hv8 with ⟨h64, rfl⟩ | ⟨h64, rfl⟩
       ·obtain ⟨g1, g2, g3⟩ := hfree h64
        rw [g2] at hF'; rw [hF'] at g1 g3
        simp only [go_sem, hh, hlt2, e, hcc, hy, hyl3, hvy, hx, g1, g3, hc0, h2, errV_0, Option.isSome_none, Bool.true_and, Bool.and_true, beq_self_eq_true]
        exact fun _ => ⟨okAs_WLA oF, oF, hK⟩
       ·simp only [go_sem, hh, hlt2, e, hcc, hbI, onErr_4, h2, Option.isSome_none, int_44, decide_true, Bool.true_and, Bool.and_true, beq_self_eq_true]
        exact fun _ => ⟨hK, fun h => absurd trivial h⟩
      | some p =>
       obtain ⟨p1, p2, p3, p4⟩ := hsome p rfl
       have i0 : p.1 < L.length := by omega
       have i1 : ¬ ((p.1 : Int) < 0) := by omega
       have i2 : ¬ (p.2.1 ≤ p.1) := by omega
       have i3 : ¬ (L.length ≤ p.2.1) := by omega
       obtain ⟨A, hA⟩ : ∃ A, L.getD p.1 [] = A := ⟨_, rfl⟩
       obtain ⟨B, hB⟩ : ∃ B, L.getD p.2.1 [] = B := ⟨_, rfl⟩
       have mA : A ∈ L := by rw [← hA]; exact getD_in i0
       have mB : B ∈ L := by rw [← hB]; exact getD_in p2
       have cA := hch A mA
       have cB := hch B mB
       have oA : okAs 4294967296 A := okAs_mono (hol A mA) (by decide)
       have oB : okAs 4294967296 B := okAs_mono (hol B mB) (by decide)
       rw [hA] at p3; rw [hB] at p4
       rcases hv8 with ⟨h64, rfl⟩ | ⟨h64, rfl⟩
       ·obtain ⟨g1, g2, g3⟩ := hfree h64
        rw [g2] at hF'; rw [hF'] at g1 g3
        simp only [go_sem, hh, hlt2, e, hcc, hy, hyl3, hvy, hx, g1, g3, hc0, errV_0, Option.isSome_some, fstN, sndN, Bool.true_and, Bool.and_true, beq_self_eq_true, i0, i1, i2, i3, hA, hB, cA, cB, p2, p3, p4, hrz, vld_can]
        exact fun _ => ⟨okAs_WLA oF, oF, fun _ => ⟨okAs_WLA oA, oA, okAs_WLA oB, oB, hK⟩⟩
       ·simp only [go_sem, hh, hlt2, e, hcc, hbI, onErr_4, Option.isSome_some, fstN, sndN, int_44, decide_true, Bool.true_and, Bool.and_true, beq_self_eq_true, i0, i1, i2, i3, hA, hB, cA, cB, p2, p3, p4, hrz, vld_can, errV_0]
        exact fun _ => ⟨fun _ => ⟨okAs_WLA oA, oA, okAs_WLA oB, oB, hK⟩, fun h => absurd trivial h⟩
end Go.Abs
end
