/-
  Parts of the proof, merged: ArgE, IntC, IntD, IntE, IntF, IntG, IntH, IntK, PoseM, PoseN, RefB.
-/
import Derived.Test.YtobkolmneiiheaaGreatDoorM8
import Derived.OpenShut
import Derived.Lib.BitFns
set_option linter.unusedVariables false
set_option linter.unusedSimpArgs false
section
set_option linter.unusedVariables false
namespace Go.Abs
open Go.Num
variable {H : Type} {enc : TypeId × Value → H} {bulk : DataW H → Nat} {P : Program} {w : World} {α : Type}
theorem opens_arr3 {t u : TypeId} {s : Nat} {e : α → List C} {ok : Nat → α → Prop} (B : Bk bulk) (ht : P.underlying t = some (.array 3 u)) (hs : P.cellsOf u = s) (hz : P.cellsOf t = 3 * s)
  (mono : ∀ n n' a, n ≤ n' → ok n a → ok n' a) (h : Opens enc bulk P w u e ok) : Opens enc bulk P w t (fun a : α × α × α => e a.1 ++ e a.2.1 ++ e a.2.2) (fun n a => ok n a.1 ∧ ok n a.2.1 ∧ ok n a.2.2) := by
 intro fuel cs x hx
 obtain ⟨xs, m, rfl, rfl, hlen, hxl, hget⟩ := DataW.trod_array ht hx
 rw [hs] at hget
 match xs, hxl with
 | [x0, x1, x2], _ =>
  obtain ⟨a0, k0, r0⟩ := h m _ x0 (hget 0 (by omega))
  obtain ⟨a1, k1, r1⟩ := h m _ x1 (hget 1 (by omega))
  obtain ⟨a2, k2, r2⟩ := h m _ x2 (hget 2 (by omega))
  rw [Nat.zero_mul, List.drop_zero] at r0
  rw [Nat.one_mul] at r1
  have e0 : cs = cs.take s ++ (cs.drop s).take s ++ (cs.drop (2 * s)).take s := by
   have h1 : (cs.drop (2 * s)).take s = cs.drop (2 * s) := List.take_of_length_le (by rw [List.length_drop, hlen, hz]; omega)
   have h2 : cs.drop (2 * s) = (cs.drop s).drop s := by rw [List.drop_drop]; congr 1; omega
   rw [h1, h2, List.append_assoc, List.take_append_drop, List.take_append_drop]
  have b : ∀ y ∈ [x0, x1, x2], bulk y.1 ≤ bulk (.agg ([x0, x1, x2].map (·.1))) := fun y hy => B.ag _ _ (List.mem_map.2 ⟨y, hy, rfl⟩)
  refine ⟨(a0, a1, a2), ⟨mono _ _ _ (b x0 (by simp)) k0, mono _ _ _ (b x1 (by simp)) k1, mono _ _ _ (b x2 (by simp)) k2⟩, ?_⟩
  rw [e0]
  exact (r0.append r1).append r2
structure P3T (P : Program) (t : TypeId) : Prop where
 ex : ∃ u, P.underlying t = some (.array 3 u) ∧ P.cellsOf u = 10 ∧ P.cellsOf t = 30 ∧ PsT P u
def okP3 (n : Nat) (t : P3) : Prop := WL3 t ∧ okPs n (l3 t)
theorem opens_p3 {t : TypeId} (B : Bk bulk) (h : P3T P t) : Opens enc bulk P w t p3C okP3 := by
 obtain ⟨u, ht, hc, hz, hu⟩ := h.ex
 have := opens_arr3 (enc := enc) (w := w) (s := 10) B ht hc (by omega) okPose_mono (opens_ps (enc := enc) (w := w) B hu)
 refine this.imp fun n x h => ⟨⟨h.1.1, h.2.1.1, h.2.2.1⟩, fun p hp => ?_⟩
 rcases l3_mem.1 hp with rfl | rfl | rfl
 ·exact h.1
 ·exact h.2.1
 ·exact h.2.2
theorem ra_arr {r : Reach} {b0 n : Nat} {t u : TypeId} {v : Value} {d : DataW H} {ps : List MemPlace} {e : α → List C} {ok : Nat → α → Prop} (ht : P.underlying t = some (.array n u)) (hval : Value.okWide P w r b0 t v)
  (hd : DataW.Trod enc P w 0 (fun _ => true) true t v d ps) (ho : Opens enc bulk P w t e ok) : ∃ a, ok (bulk d) a ∧ RA M0 (Old w) w.heap (.agg (e a)) v := by
 simp only [Value.okWide, ht] at hval
 obtain ⟨cs, rfl, _⟩ := hval
 obtain ⟨fuel, hf⟩ := hd
 obtain ⟨x, hx, hr⟩ := ho _ _ _ hf
 have e : (Value.agg cs).cells.toList = cs.toList := by simp [Value.cells]
 rw [e] at hr
 refine ⟨x, hx, ?_⟩
 have : cs = ⟨cs.toList⟩ := by simp
 rw [this]
 exact .agg _ _ hr
end Go.Abs
end
section
set_option linter.unusedVariables false
set_option linter.unusedSimpArgs false
set_option maxRecDepth 100000
namespace Go.Abs
open Go.Num
variable {P : Program} {Γ : Nat → Spec}
def ac_integer_trim : AC := (.seq (.ops false [.m 2 (.c (.one .emp))])
 (.fg [0] (.seq (.ops false [.m 4 (.t 0), .u 5 (.len (.t 4)), .m 3 (.t 5)])
 (.fg [0, 3] (.seq (.block 0 (.loop (.seq (.seq (.ops false [.m 6 (.t 3), .u 7 (.bin .gtr (.t 6) (.i 0)), .m 8 (.t 7), .w 9 8 true (.mv (.t 0)), .w 10 8 true (.mv (.t 3)), .w 11 8 true (.bin .sub (.t 10) (.i 1)), .w 12 8 true (.idx 1 (.t 9) (.t 11)), .w 13 8 true (.ld none 1 false (.t 12)), .w 14 8 true (.bin .eql (.t 13) (.c (.one (.lit (.int .u32 0))))), .u 15 (.pick (.t 8) (.t 14) .fa)])
 (.fg [0, 3, 15] (.cond (.t 15) .skip (.exit 0))))
 (.fg [0, 3] (.block 1 (.ops false [.m 16 (.t 3), .u 17 (.bin .sub (.t 16) (.i 1)), .m 3 (.t 17)]))))))
 (.fg [0, 3] (.seq (.seq (.ops false [.m 18 (.t 3), .u 19 (.bin .eql (.t 18) (.i 0))])
 (.fg [0, 3, 19] (.cond (.t 19) (.seq (.ops false [.m 2 (.c (.one .emp))])
 .ret) .skip)))
 (.fg [0, 3] (.seq (.ops false [.m 20 (.c (.one .emp)), .m 21 (.t 0), .m 22 (.t 3), .u 23 (.sl 1 (.t 21) none (some (.t 22))), .u 24 (.app0 1 (.t 20) (.t 23)), .m 2 (.t 24)])
 .ret)))))))))
def ac_integer_word : AC := (.seq (.ops false [.m 4 (.c (.one (.lit (.int .u64 0))))])
 (.fg [0, 1] (.seq (.seq (.ops false [.m 5 (.t 1), .m 6 (.t 0), .u 7 (.len (.t 6)), .u 8 (.bin .lss (.t 5) (.t 7))])
 (.fg [0, 1, 8] (.cond (.t 8) (.seq (.ops false [.m 9 (.t 0), .m 10 (.t 1), .u 11 (.idx 1 (.t 9) (.t 10)), .u 12 (.ld none 1 false (.t 11)), .u 13 (.conv .u64 (.t 12)), .m 4 (.t 13)])
 .ret) .skip)))
 (.fg [] (.seq (.ops false [.m 4 (.c (.one (.lit (.int .u64 0))))])
 .ret)))))
def ac_integer_plus (f0 f1 : Nat) : AC := (.seq (.ops false [.m 4 (.c (.one .emp))])
 (.fg [0, 1] (.seq (.ops false [.m 8 (.t 0), .u 9 (.len (.t 8)), .m 10 (.t 1), .u 11 (.len (.t 10)), .u 12 (.max [(.t 9), (.t 11)]), .u 13 (.bin .add (.t 12) (.i 1)), .u 14 (.mk 1 [(.lit (.int .u32 0))] (.t 13) (.t 13)), .m 5 (.t 14)])
 (.fg [0, 1, 5] (.seq (.ops false [.m 6 (.c (.one (.lit (.int .u64 0))))])
 (.fg [0, 1, 5, 6] (.seq (.seq (.ops false [.m 15 (.t 5), .u 16 (.len (.t 15)), .m 17 (.i 0)])
 (.fg [0, 1, 5, 6, 16, 17] (.block 0 (.loop (.seq (.ops false [.u 18 (.bin .lss (.t 17) (.t 16))])
 (.fg [0, 1, 5, 6, 16, 17, 18] (.seq (.cond (.t 18) .skip (.exit 0))
 (.fg [0, 1, 5, 6, 16, 17] (.seq (.block 1 (.seq (.ops false [.m 19 (.t 17), .m 7 (.t 19)])
 (.fg [0, 1, 5, 6, 7, 16, 17] (.seq (.ops false [.m 20 (.t 6), .m 21 (.t 0), .m 22 (.t 7), .u 23 (.call f0 [(.t 21), (.t 22)]), .m 24 (.t 1), .m 25 (.t 7), .u 26 (.call f0 [(.t 24), (.t 25)]), .u 27 (.bin .add (.t 23) (.t 26)), .u 28 (.bin .add (.t 20) (.t 27)), .m 6 (.t 28)])
 (.fg [0, 1, 5, 6, 7, 16, 17] (.seq (.ops false [.m 29 (.t 5), .m 30 (.t 7), .m 31 (.t 6), .u 32 (.conv .u32 (.t 31)), .u 33 (.idx 1 (.t 29) (.t 30)), .n (.st none 1 (.t 33) (.t 32))])
 (.fg [0, 1, 5, 6, 16, 17] (.ops false [.m 34 (.t 6), .u 35 (.bin .shr (.t 34) (.c (.one (.lit (.int .u64 32))))), .m 6 (.t 35)]))))))))
 (.fg [0, 1, 5, 6, 16, 17] (.ops false [.u 36 (.bin .add (.t 17) (.i 1)), .m 17 (.t 36)])))))))))))
 (.fg [5] (.seq (.ops false [.m 37 (.t 5), .u 38 (.call f1 [(.t 37)]), .m 4 (.t 38)])
 .ret)))))))))
theorem trim_sound (hΓ : Holds P Γ) {f : Nat} (hc : check P f = some (25, ac_integer_trim.strip, [.tmp 2])) : Sound P f (.dat false trim_G) := by
 refine sound_dat hc trim_good hΓ (fun args K hcl hfi hG => ?_)
 match args, hG with
 | [a], hG =>
  obtain ⟨l, rfl, hl, hlen, hK⟩ := hG
  refine ⟨by simp, ?_⟩
  simp only [go_sem, ac_integer_trim]
  intro hmax
  refine wpA_loop (fun n : Nat => ⟨mkV [(0, wsA l), (3, .one (.lit (.int .i64 n)))], mkH []⟩) (fun n => n ≤ l.length ∧ val (l.take n) = val l) id l.length ?_ ?_ ?_
  ·exact weak_lit (by simp [okS, okV, okC, okL, okH, okB, okE, mkV_cons, mkV_nil, mkH_cons, mkH_nil, wsA, ws]) trivial
  ·simp
  ·rintro n ⟨hn, ht⟩
   simp only [go_sem]
   refine ⟨fun h => ⟨by omega, by omega, by omega, fun h0 => ⟨by omega, n - 1, weak_lit (by simp [okS, okV, okC, okL, okH, okB, okE, mkV_cons, mkV_nil, mkH_cons, mkH_nil, wsA, ws]; omega) trivial, ⟨by omega, ?_⟩, ?_⟩, fun h0 => ⟨fun h1 => by omega, fun _ => ⟨by omega, by simp; omega, ?_⟩⟩⟩, fun h => ⟨fun h1 => ?_, fun h1 => by omega⟩⟩
   ·rw [show ((n : Int) - 1).toNat = n - 1 by omega] at h0
    have := take_succ l (n - 1)
    rw [show n - 1 + 1 = n by omega, h0, Nat.mul_zero, Nat.add_zero] at this
    rw [← this]; exact ht
   ·simp only [id]; omega
   ·rw [show ((n : Int) - 1).toNat = n - 1 by omega] at h0
    have := digs_val (WL_take hl n) (NZ_take h hn h0)
    rw [← this, ht]; exact hK
   ·subst h1
    have : val l = 0 := by rw [← ht]; simp [val]
    rw [this, digs_zero] at hK; exact hK
theorem word_sound (hΓ : Holds P Γ) {f : Nat} (hc : check P f = some (14, ac_integer_word.strip, [.tmp 4])) : Sound P f (.dat true word_G) := by
 refine sound_dat hc word_good hΓ (fun args K hcl hfi hG => ?_)
 match args, hG with
 | [a, b], hG =>
  obtain ⟨l, rfl, hl, hG⟩ := hG
  obtain ⟨k, i, rfl, rfl, hi, hK⟩ := asInt_inv hG
  refine ⟨by simp, ?_⟩
  simp only [go_sem, ac_integer_word]
  intro hmax
  refine ⟨fun h => ⟨hi, by omega, ?_⟩, fun h => ?_⟩
  ·have := WL_getD hl i.toNat
   rw [Nat.mod_eq_of_lt (by omega)]; exact hK
  ·rw [List.getD_eq_getElem?_getD, List.getElem?_eq_none (by omega)] at hK; exact hK
theorem plus_sound (hΓ : Holds P Γ) {f fw ft : Nat} (hw : Γ fw = .dat true word_G) (ht : Γ ft = .dat false trim_G) (hc : check P f = some (39, (ac_integer_plus fw ft).strip, [.tmp 4])) : Sound P f (.dat false plus_G) := by
 refine sound_dat hc plus_good hΓ (fun args K hcl hfi hG => ?_)
 match args, hG with
 | [a, b], hG =>
  obtain ⟨x, rfl, hx, y, rfl, hy, hxl, hyl, hK⟩ := hG
  refine ⟨by simp, ?_⟩
  simp only [go_sem, ac_integer_plus, hw, ht]
  intro h1 h2
  refine ⟨by omega, by omega, fun hN => ?_⟩
  generalize hNN : max x.length y.length + 1 = N at hN
  refine wpA_loop (fun p : List Nat × Nat => ⟨mkV [(0, wsA x), (1, wsA y), (5, .one (.own 14 1 1 0 N)), (6, .one (.lit (.int .u64 p.2))), (16, .one (.lit (.int .i64 N))), (17, .one (.lit (.int .i64 p.1.length)))], mkH [(14, ⟨1, some ⟨(p.1 ++ List.replicate (N - p.1.length) 0).map wc, 1, true⟩⟩)]⟩)
   (fun p => p.1.length ≤ N ∧ WL p.1 ∧ p.2 ≤ 1 ∧ val p.1 + 4294967296 ^ p.1.length * p.2 = val (x.take p.1.length) + val (y.take p.1.length)) (fun p => N - p.1.length) ([], 0) ?_ ?_ ?_
  ·exact weak_lit (by simp [okS, okV, okC, okL, okH, okB, okE, mkV_cons, mkV_nil, mkH_cons, mkH_nil, wsA, ws]) (okH_1 (by simp))
  ·simp [WL_nil, val]
  ·rintro ⟨o, c⟩ ⟨hoN, ho, hc1, hval⟩
   simp only at hoN ho hc1 hval
   have hlen : (o ++ List.replicate (N - o.length) 0).length = N := by simp; omega
   simp only [go_sem, hw, ht, hlen]
   refine ⟨fun hlt => ⟨hx, hy, hlt, hlt, by omega, by omega, ?_⟩, fun hge => ?_⟩
   ·have g1 := WL_getD hx o.length
    have g2 := WL_getD hy o.length
    rw [Nat.mod_eq_of_lt (show x.getD o.length 0 + y.getD o.length 0 < 18446744073709551616 by omega), Nat.mod_eq_of_lt (show c + (x.getD o.length 0 + y.getD o.length 0) < 18446744073709551616 by omega)]
    generalize hs : c + (x.getD o.length 0 + y.getD o.length 0) = s
    refine ⟨(o ++ [s % 4294967296], s / 4294967296), weak_lit (by simp [okS, okV, okC, okL, okH, okB, okE, mkV_cons, mkV_nil, mkH_cons, mkH_nil, wsA, ws]) (okH_1 ?_), ⟨by simp; omega, WL_append.2 ⟨ho, WL_cons.2 ⟨Nat.mod_lt _ (by omega), WL_nil⟩⟩, by simp only; omega, ?_⟩, by simp; omega⟩
    ·rw [show N - o.length = N - (o.length + 1) + 1 by omega, rep_set]; simp
    ·simp only [List.length_append, List.length_cons, List.length_nil, Nat.zero_add, take_succ, val_append, val_cons, val_nil, Nat.mul_zero, Nat.add_zero, Nat.pow_succ]
     rw [Nat.mul_assoc, Nat.add_assoc, ← Nat.mul_add, Nat.mod_add_div, ← hs, Nat.mul_add, ← Nat.add_assoc, hval, Nat.mul_add]
     omega
   ·have e : o.length = N := by omega
    simp only [e, Nat.sub_self, List.replicate_zero, List.append_nil, Nat.le_refl, if_true, onWs_e]
    have hv : val o = val x + val y := by
     rw [e, take_all (by omega), take_all (by omega)] at hval
     exact sum_fits hx hy (by omega) (by omega) (by omega) hval
    refine ⟨ho, by omega, ?_⟩
    rw [hv]; exact hK
end Go.Abs
end
section
set_option linter.unusedVariables false
set_option linter.unusedSimpArgs false
set_option maxRecDepth 100000
namespace Go.Abs
open Go.Num
variable {P : Program} {Γ : Nat → Spec}
def ac_integer_less (f0 f1 : Nat) : AC := (.seq (.ops false [.m 4 (.c (.one .emp))])
 (.fg [0, 1] (.seq (.ops false [.m 9 (.t 0), .u 10 (.len (.t 9)), .u 11 (.mk 1 [(.lit (.int .u32 0))] (.t 10) (.t 10)), .m 5 (.t 11)])
 (.fg [0, 1, 5] (.seq (.ops false [.m 6 (.c (.one (.lit (.int .u64 0))))])
 (.fg [0, 1, 5, 6] (.seq (.seq (.ops false [.m 12 (.t 5), .u 13 (.len (.t 12)), .m 14 (.i 0)])
 (.fg [0, 1, 5, 6, 13, 14] (.block 0 (.loop (.seq (.ops false [.u 15 (.bin .lss (.t 14) (.t 13))])
 (.fg [0, 1, 5, 6, 13, 14, 15] (.seq (.cond (.t 15) .skip (.exit 0))
 (.fg [0, 1, 5, 6, 13, 14] (.seq (.block 1 (.seq (.ops false [.m 16 (.t 14), .m 7 (.t 16)])
 (.fg [0, 1, 5, 6, 7, 13, 14] (.seq (.ops true [.m 17 (.t 0), .m 18 (.t 7), .u 19 (.idx 1 (.t 17) (.t 18)), .u 20 (.ld none 1 false (.t 19)), .u 21 (.conv .u64 (.t 20)), .m 22 (.t 1), .m 23 (.t 7), .u 24 (.call f0 [(.t 22), (.t 23)]), .u 25 (.bin .sub (.t 21) (.t 24)), .m 26 (.t 6), .u 27 (.bin .sub (.t 25) (.t 26)), .m 8 (.t 27)])
 (.fg [0, 1, 5, 7, 8, 13, 14] (.seq (.ops false [.m 28 (.t 5), .m 29 (.t 7), .m 30 (.t 8), .u 31 (.conv .u32 (.t 30)), .u 32 (.idx 1 (.t 28) (.t 29)), .n (.st none 1 (.t 32) (.t 31))])
 (.fg [0, 1, 5, 8, 13, 14] (.ops false [.m 33 (.t 8), .u 34 (.bin .shr (.t 33) (.c (.one (.lit (.int .u64 63))))), .m 6 (.t 34)]))))))))
 (.fg [0, 1, 5, 6, 13, 14] (.ops false [.u 35 (.bin .add (.t 14) (.i 1)), .m 14 (.t 35)])))))))))))
 (.fg [5] (.seq (.ops false [.m 36 (.t 5), .u 37 (.call f1 [(.t 36)]), .m 4 (.t 37)])
 .ret)))))))))
def ac_integer_compare : AC := (.seq (.ops false [.m 4 (.i 0)])
 (.fg [0, 1] (.seq (.seq (.ops false [.m 6 (.t 0), .u 7 (.len (.t 6)), .m 8 (.t 1), .u 9 (.len (.t 8)), .u 10 (.bin .neq (.t 7) (.t 9))])
 (.fg [0, 1, 10] (.cond (.t 10) (.seq (.seq (.ops false [.m 11 (.t 0), .u 12 (.len (.t 11)), .m 13 (.t 1), .u 14 (.len (.t 13)), .u 15 (.bin .lss (.t 12) (.t 14))])
 (.fg [15] (.cond (.t 15) (.seq (.ops false [.m 4 (.i (-1))])
 .ret) .skip)))
 (.fg [] (.seq (.ops false [.m 4 (.i 1)])
 .ret))) .skip)))
 (.fg [0, 1] (.seq (.seq (.ops false [.m 16 (.t 0), .u 17 (.len (.t 16)), .u 18 (.bin .sub (.t 17) (.i 1)), .m 5 (.t 18)])
 (.fg [0, 1, 5] (.block 0 (.loop (.seq (.seq (.ops false [.m 19 (.t 5), .u 20 (.bin .geq (.t 19) (.i 0))])
 (.fg [0, 1, 5, 20] (.cond (.t 20) .skip (.exit 0))))
 (.fg [0, 1, 5] (.seq (.block 1 (.seq (.ops true [.m 23 (.t 0), .m 24 (.t 5), .u 25 (.idx 1 (.t 23) (.t 24)), .u 26 (.ld none 1 false (.t 25)), .m 27 (.t 1), .m 28 (.t 5), .u 29 (.idx 1 (.t 27) (.t 28)), .u 30 (.ld none 1 false (.t 29)), .u 31 (.bin .neq (.t 26) (.t 30))])
 (.fg [0, 1, 5, 31] (.cond (.t 31) (.seq (.seq (.ops true [.m 32 (.t 0), .m 33 (.t 5), .u 34 (.idx 1 (.t 32) (.t 33)), .u 35 (.ld none 1 false (.t 34)), .m 36 (.t 1), .m 37 (.t 5), .u 38 (.idx 1 (.t 36) (.t 37)), .u 39 (.ld none 1 false (.t 38)), .u 40 (.bin .lss (.t 35) (.t 39))])
 (.fg [40] (.cond (.t 40) (.seq (.ops false [.m 4 (.i (-1))])
 .ret) .skip)))
 (.fg [] (.seq (.ops false [.m 4 (.i 1)])
 .ret))) .skip))))
 (.fg [0, 1, 5] (.ops false [.m 21 (.t 5), .u 22 (.bin .sub (.t 21) (.i 1)), .m 5 (.t 22)])))))))))
 (.fg [] (.seq (.ops false [.m 4 (.i 0)])
 .ret)))))))
def ac_integer_short (f0 : Nat) : AC := (.seq (.ops false [.m 4 (.c (.one .emp)), .m 5 (.c (.one (.lit (.int .u32 0))))])
 (.fg [0, 1] (.seq (.ops false [.m 9 (.t 0), .u 10 (.len (.t 9)), .u 11 (.mk 1 [(.lit (.int .u32 0))] (.t 10) (.t 10)), .m 6 (.t 11)])
 (.fg [0, 1, 6] (.seq (.ops false [.m 7 (.c (.one (.lit (.int .u64 0))))])
 (.fg [0, 1, 6, 7] (.seq (.seq (.ops false [.m 12 (.t 0), .u 13 (.len (.t 12)), .u 14 (.bin .sub (.t 13) (.i 1)), .m 8 (.t 14)])
 (.fg [0, 1, 6, 7, 8] (.block 0 (.loop (.seq (.seq (.ops false [.m 15 (.t 8), .u 16 (.bin .geq (.t 15) (.i 0))])
 (.fg [0, 1, 6, 7, 8, 16] (.cond (.t 16) .skip (.exit 0))))
 (.fg [0, 1, 6, 7, 8] (.seq (.block 1 (.seq (.ops false [.m 19 (.t 7), .u 20 (.bin .shl (.t 19) (.c (.one (.lit (.int .u64 32))))), .m 21 (.t 0), .m 22 (.t 8), .u 23 (.idx 1 (.t 21) (.t 22)), .u 24 (.ld none 1 false (.t 23)), .u 25 (.conv .u64 (.t 24)), .u 26 (.bin .or (.t 20) (.t 25)), .m 7 (.t 26)])
 (.fg [0, 1, 6, 7, 8] (.seq (.ops false [.m 27 (.t 6), .m 28 (.t 8), .m 29 (.t 7), .m 30 (.t 1), .u 31 (.conv .u64 (.t 30)), .u 32 (.bin .quo (.t 29) (.t 31)), .u 33 (.conv .u32 (.t 32)), .u 34 (.idx 1 (.t 27) (.t 28)), .n (.st none 1 (.t 34) (.t 33))])
 (.fg [0, 1, 6, 7, 8] (.ops false [.m 35 (.t 7), .m 36 (.t 1), .u 37 (.conv .u64 (.t 36)), .u 38 (.bin .rem (.t 35) (.t 37)), .m 7 (.t 38)]))))))
 (.fg [0, 1, 6, 7, 8] (.ops false [.m 17 (.t 8), .u 18 (.bin .sub (.t 17) (.i 1)), .m 8 (.t 18)])))))))))
 (.fg [6, 7] (.seq (.ops false [.m 39 (.t 6), .u 40 (.call f0 [(.t 39)]), .m 41 (.t 7), .u 42 (.conv .u32 (.t 41)), .m 4 (.t 40), .m 5 (.t 42)])
 .ret)))))))))
theorem less_sound (hΓ : Holds P Γ) {f fw ft : Nat} (hw : Γ fw = .dat true word_G) (ht : Γ ft = .dat false trim_G) (hc : check P f = some (38, (ac_integer_less fw ft).strip, [.tmp 4])) : Sound P f (.dat false less_G) := by
 refine sound_dat hc less_good hΓ (fun args K hcl hfi hG => ?_)
 match args, hG with
 | [a, b], hG =>
  obtain ⟨x, rfl, hx, y, rfl, hy, hxl, hle, hK⟩ := hG
  refine ⟨by simp, ?_⟩
  simp only [go_sem, ac_integer_less, hw, ht]
  intro h1
  refine ⟨by omega, fun _ => ?_⟩
  generalize hN : x.length = N at h1 hxl
  refine wpA_loop (fun p : List Nat × Nat => ⟨mkV [(0, wsA x), (1, wsA y), (5, .one (.own 11 1 1 0 N)), (6, .one (.lit (.int .u64 p.2))), (13, .one (.lit (.int .i64 N))), (14, .one (.lit (.int .i64 p.1.length)))], mkH [(11, ⟨1, some ⟨(p.1 ++ List.replicate (N - p.1.length) 0).map wc, 1, true⟩⟩)]⟩)
   (fun p => p.1.length ≤ N ∧ WL p.1 ∧ p.2 ≤ 1 ∧ val p.1 + val (y.take p.1.length) = val (x.take p.1.length) + 4294967296 ^ p.1.length * p.2) (fun p => N - p.1.length) ([], 0) ?_ ?_ ?_
  ·exact weak_lit (by simp [okS, okV, okC, okL, okH, okB, okE, mkV_cons, mkV_nil, mkH_cons, mkH_nil, wsA, ws]) (okH_1 (by simp))
  ·simp [WL_nil, val]
  ·rintro ⟨o, c⟩ ⟨hoN, ho, hc1, hval⟩
   simp only at hoN ho hc1 hval
   have hlen : (o ++ List.replicate (N - o.length) 0).length = N := by simp; omega
   simp only [go_sem, hw, ht, hlen]
   refine ⟨fun hlt => ⟨by omega, hy, hlt, hlt, by omega, by omega, ?_⟩, fun hge => ?_⟩
   ·have g1 := WL_getD hx o.length
    have g2 := WL_getD hy o.length
    rw [Nat.mod_eq_of_lt (show x.getD o.length 0 < 18446744073709551616 by omega)]
    obtain ⟨s1, s2⟩ := sub_step g1 g2 hc1
    generalize sub64 (sub64 (x.getD o.length 0) (y.getD o.length 0)) c = s at s1 s2
    refine ⟨(o ++ [s % 4294967296], s / 9223372036854775808), weak_lit (by simp [okS, okV, okC, okL, okH, okB, okE, mkV_cons, mkV_nil, mkH_cons, mkH_nil, wsA, ws]) (okH_1 ?_), ⟨by simp; omega, WL_append.2 ⟨ho, WL_cons.2 ⟨Nat.mod_lt _ (by omega), WL_nil⟩⟩, s2, ?_⟩, by simp; omega⟩
    ·rw [show N - o.length = N - (o.length + 1) + 1 by omega, rep_set]; simp
    ·simp only [List.length_append, List.length_cons, List.length_nil, Nat.zero_add, take_succ, val_append, val_cons, val_nil, Nat.mul_zero, Nat.add_zero, Nat.pow_succ]
     exact less_aux hval s1
   ·have e : o.length = N := by omega
    have hv := less_end ho hx (by omega) hle hval
    simp only [e, Nat.sub_self, List.replicate_zero, List.append_nil]
    refine ⟨ho, by omega, ?_⟩
    rw [hv]; exact hK
theorem compare_sound (hΓ : Holds P Γ) {f : Nat} (hc : check P f = some (41, ac_integer_compare.strip, [.tmp 4])) : Sound P f (.dat false compare_G) := by
 refine sound_dat hc compare_good hΓ (fun args K hcl hfi hG => ?_)
 match args, hG with
 | [a, b], hG =>
  obtain ⟨x, rfl, hx, y, rfl, hy, hzx, hzy, hK⟩ := hG
  refine ⟨by simp, ?_⟩
  simp only [go_sem, ac_integer_compare]
  intro h1 h2
  refine ⟨fun hl _ => ⟨by omega, ?_⟩, fun hne _ _ => ⟨fun hlt => ?_, fun hge => ?_⟩⟩
  rotate_left
  ·rw [ordN_lt (lt_of_len hx hzy hlt)] at hK; exact hK
  ·rw [ordN_gt (lt_of_len hy hzx (by omega))] at hK; exact hK
  refine wpA_loop (fun n : Nat => ⟨mkV [(0, wsA x), (1, wsA y), (5, .one (.lit (.int .i64 ((n : Int) - 1))))], mkH []⟩) (fun n => n ≤ x.length ∧ x.drop n = y.drop n) id x.length ?_ ?_ ?_
  ·exact weak_lit (by simp [okS, okV, okC, okL, okH, okB, okE, mkV_cons, mkV_nil, mkH_cons, mkH_nil, wsA, ws]) trivial
  ·simp [hl]
  ·rintro n ⟨hn, hd⟩
   simp only [go_sem]
   refine ⟨fun h => ⟨by omega, by omega, by omega, by omega, fun he => ⟨by omega, n - 1, weak_lit (by simp [okS, okV, okC, okL, okH, okB, okE, mkV_cons, mkV_nil, mkH_cons, mkH_nil, wsA, ws]; omega) trivial, ⟨by omega, ?_⟩, by simp only [id]; omega⟩, fun hne => ?_⟩, fun h => ?_⟩
   ·rw [show ((n : Int) - 1).toNat = n - 1 by omega] at he
    rw [List.getD_eq_getElem?_getD, List.getD_eq_getElem?_getD, List.getElem?_eq_getElem (by omega), List.getElem?_eq_getElem (by omega)] at he
    have e1 := List.getElem_cons_drop (as := x) (i := n - 1) (by omega)
    have e2 := List.getElem_cons_drop (as := y) (i := n - 1) (by omega)
    rw [show n - 1 + 1 = n by omega] at e1 e2
    rw [← e1, ← e2, hd]
    simp only [Option.getD_some] at he
    rw [he]
   ·rw [show ((n : Int) - 1).toNat = n - 1 by omega] at hne ⊢
    refine ⟨by omega, by omega, by omega, by omega, fun hlt => ?_, fun hge => ?_⟩
    ·rw [ordN_lt (cmp_lt (i := n - 1) hx hl (by omega) (by rw [show n - 1 + 1 = n by omega]; exact hd) hlt)] at hK; exact hK
    ·rw [ordN_gt (cmp_lt (i := n - 1) hy hl.symm (by omega) (by rw [show n - 1 + 1 = n by omega]; exact hd.symm) (by omega))] at hK; exact hK
   ·have : n = 0 := by omega
    subst this
    simp only [List.drop_zero] at hd
    rw [hd, ordN_eq] at hK; exact hK
theorem short_sound (hΓ : Holds P Γ) {f ft : Nat} (ht : Γ ft = .dat false trim_G) (hc : check P f = some (43, (ac_integer_short ft).strip, [.tmp 4, .tmp 5])) : Sound P f (.dat false short_G) := by
 refine sound_dat hc short_good hΓ (fun args K hcl hfi hG => ?_)
 match args, hG with
 | [a, b], hG =>
  obtain ⟨x, rfl, hx, hG⟩ := hG
  obtain ⟨k, m, rfl, rfl, hm, hmB, hxl, hK⟩ := asInt_inv hG
  obtain ⟨m, rfl⟩ : ∃ n : Nat, m = n := ⟨m.toNat, by omega⟩
  simp only [Int.toNat_natCast] at hK
  refine ⟨by simp, ?_⟩
  simp only [go_sem, ac_integer_short, ht]
  intro h1
  refine ⟨hxl, fun _ => ⟨by omega, ?_⟩⟩
  refine wpA_loop (fun p : List Nat × Nat => ⟨mkV [(0, wsA x), (1, .one (.lit (.int .u32 m))), (6, .one (.own 11 1 1 0 x.length)), (7, .one (.lit (.int .u64 p.2))), (8, .one (.lit (.int .i64 ((x.length : Int) - p.1.length - 1))))], mkH [(11, ⟨1, some ⟨(List.replicate (x.length - p.1.length) 0 ++ p.1).map wc, 1, true⟩⟩)]⟩)
   (fun p => p.1.length ≤ x.length ∧ WL p.1 ∧ p.2 < m ∧ val p.1 * m + p.2 = val (x.drop (x.length - p.1.length))) (fun p => x.length - p.1.length) ([], 0) ?_ ?_ ?_
  ·exact weak_lit (by simp [okS, okV, okC, okL, okH, okB, okE, mkV_cons, mkV_nil, mkH_cons, mkH_nil, wsA, ws]) (okH_1 (by simp))
  ·simp [WL_nil, val]; omega
  ·rintro ⟨q, r⟩ ⟨hq, hqw, hr, hval⟩
   simp only at hq hqw hr hval
   have hlen : (List.replicate (x.length - q.length) 0 ++ q).length = x.length := by simp; omega
   simp only [go_sem, ht, hlen]
   refine ⟨fun h => ?_, fun h => ?_⟩
   ·obtain ⟨n, hn⟩ : ∃ n, n = x.length - q.length := ⟨_, rfl⟩
    have hn0 : 0 < n := by omega
    have hi : ((x.length : Int) - q.length - 1).toNat = n - 1 := by omega
    have g1 := WL_getD hx (n - 1)
    have hd := drop_cons x hn0 (by omega)
    obtain ⟨s1, s2⟩ := short_lt (by omega) hr g1
    have s3 := short_aux (B := 4294967296) (a := x.getD (n - 1) 0) (by omega) (hn ▸ hval)
    have e1 : r * 4294967296 % 18446744073709551616 = r * 4294967296 := by omega
    have e2 : x.getD (n - 1) 0 % 18446744073709551616 = x.getD (n - 1) 0 := by omega
    have e3 : m % 18446744073709551616 = m := by omega
    rw [hi, ← hn, e1, e2, e3, or32 _ _ g1]
    generalize hs : r * 4294967296 + x.getD (n - 1) 0 = s at s1 s2 s3
    rw [Nat.mod_eq_of_lt (show s / m < 18446744073709551616 by omega), Nat.mod_eq_of_lt s1]
    have hm0 : s % m < m := Nat.mod_lt _ (by omega)
    refine ⟨⟨rfl, by omega⟩, by omega, by omega, ⟨rfl, by omega, by omega⟩, by omega, ⟨by omega, by omega⟩, by omega, by omega, by omega, (s / m :: q, s % m), weak_lit (by simp [okS, okV, okC, okL, okH, okB, okE, mkV_cons, mkV_nil, mkH_cons, mkH_nil, wsA, ws]; omega) (okH_1 ?_), ⟨by simp; omega, WL_cons.2 ⟨s1, hqw⟩, hm0, ?_⟩, by simp; omega⟩
    ·simp only [List.length_cons]
     rw [rep_set_low q _ hn0, show x.length - (q.length + 1) = n - 1 by omega]
    ·rw [val_cons, List.length_cons, show x.length - (q.length + 1) = n - 1 by omega, hd]; exact s3
   ·have e : x.length - q.length = 0 := by omega
    simp only [e, List.replicate_zero, List.nil_append, List.drop_zero] at hval ⊢
    have h1 := Nat.div_mod_unique (show 0 < m by omega) (a := val x) (c := r) (d := val q)
    obtain ⟨h2, h3⟩ := h1.2 ⟨by rw [← hval, Nat.mul_comm m, Nat.add_comm], hr⟩
    rw [h2, h3] at hK
    refine ⟨hqw, by omega, ?_⟩
    rw [Nat.mod_eq_of_lt (by omega)]; exact hK
end Go.Abs
end
section
set_option linter.unusedVariables false
set_option linter.unusedSimpArgs false
set_option maxRecDepth 100000
namespace Go.Abs
open Go.Num
variable {P : Program} {Γ : Nat → Spec}
def ac_integer_up : AC := (.seq (.ops false [.m 4 (.c (.one .emp))])
 (.fg [0, 1] (.seq (.ops false [.m 9 (.t 0), .u 10 (.len (.t 9)), .u 11 (.bin .add (.t 10) (.i 1)), .u 12 (.mk 1 [(.lit (.int .u32 0))] (.t 11) (.t 11)), .m 5 (.t 12)])
 (.fg [0, 1, 5] (.seq (.seq (.ops false [.m 13 (.t 0), .u 14 (.len (.t 13)), .m 15 (.i 0)])
 (.fg [1, 5, 13, 14, 15] (.block 0 (.loop (.seq (.ops false [.u 16 (.bin .lss (.t 15) (.t 14))])
 (.fg [1, 5, 13, 14, 15, 16] (.seq (.cond (.t 16) .skip (.exit 0))
 (.fg [1, 5, 13, 14, 15] (.seq (.block 1 (.seq (.ops false [.m 17 (.t 15), .u 18 (.idx 1 (.t 13) (.t 15)), .u 19 (.ld none 1 false (.t 18)), .m 6 (.t 17), .m 7 (.t 19)])
 (.fg [1, 5, 6, 7, 13, 14, 15] (.seq (.ops false [.m 20 (.t 7), .u 21 (.conv .u64 (.t 20)), .m 22 (.t 1), .u 23 (.bin .shl (.t 21) (.t 22)), .m 8 (.t 23)])
 (.fg [1, 5, 6, 8, 13, 14, 15] (.seq (.ops false [.m 24 (.t 5), .m 25 (.t 6), .u 26 (.idx 1 (.t 24) (.t 25)), .u 27 (.ld none 1 false (.t 26)), .m 28 (.t 8), .u 29 (.conv .u32 (.t 28)), .u 30 (.bin .or (.t 27) (.t 29)), .u 31 (.idx 1 (.t 24) (.t 25)), .n (.st none 1 (.t 31) (.t 30))])
 (.fg [1, 5, 6, 8, 13, 14, 15] (.ops false [.m 32 (.t 5), .m 33 (.t 6), .u 34 (.bin .add (.t 33) (.i 1)), .m 35 (.t 8), .u 36 (.bin .shr (.t 35) (.c (.one (.lit (.int .u64 32))))), .u 37 (.conv .u32 (.t 36)), .u 38 (.idx 1 (.t 32) (.t 34)), .n (.st none 1 (.t 38) (.t 37))]))))))))
 (.fg [1, 5, 13, 14, 15] (.ops false [.u 39 (.bin .add (.t 15) (.i 1)), .m 15 (.t 39)])))))))))))
 (.fg [5] (.seq (.ops false [.m 40 (.t 5), .m 4 (.t 40)])
 .ret)))))))
def ac_integer_down (f0 f1 : Nat) : AC := (.seq (.ops false [.m 4 (.c (.one .emp))])
 (.fg [0, 1] (.seq (.ops false [.m 7 (.t 0), .u 8 (.len (.t 7)), .u 9 (.mk 1 [(.lit (.int .u32 0))] (.t 8) (.t 8)), .m 5 (.t 9)])
 (.fg [0, 1, 5] (.seq (.seq (.ops false [.m 10 (.t 0), .u 11 (.len (.t 10)), .m 12 (.i 0)])
 (.fg [0, 1, 5, 11, 12] (.block 0 (.loop (.seq (.ops false [.u 13 (.bin .lss (.t 12) (.t 11))])
 (.fg [0, 1, 5, 11, 12, 13] (.seq (.cond (.t 13) .skip (.exit 0))
 (.fg [0, 1, 5, 11, 12] (.seq (.block 1 (.seq (.ops false [.m 14 (.t 12), .m 6 (.t 14)])
 (.fg [0, 1, 5, 6, 11, 12] (.ops true [.m 15 (.t 5), .m 16 (.t 6), .m 17 (.t 0), .m 18 (.t 6), .u 19 (.idx 1 (.t 17) (.t 18)), .u 20 (.ld none 1 false (.t 19)), .u 21 (.conv .u64 (.t 20)), .m 22 (.t 0), .m 23 (.t 6), .u 24 (.bin .add (.t 23) (.i 1)), .u 25 (.call f0 [(.t 22), (.t 24)]), .u 26 (.bin .shl (.t 25) (.c (.one (.lit (.int .u64 32))))), .u 27 (.bin .or (.t 21) (.t 26)), .m 28 (.t 1), .u 29 (.bin .shr (.t 27) (.t 28)), .u 30 (.conv .u32 (.t 29)), .u 31 (.idx 1 (.t 15) (.t 16)), .n (.st none 1 (.t 31) (.t 30))]))))
 (.fg [0, 1, 5, 11, 12] (.ops false [.u 32 (.bin .add (.t 12) (.i 1)), .m 12 (.t 32)])))))))))))
 (.fg [5] (.seq (.ops false [.m 33 (.t 5), .u 34 (.call f1 [(.t 33)]), .m 4 (.t 34)])
 .ret)))))))
def ac_integer_times (f0 : Nat) : AC := (.seq (.ops false [.m 4 (.c (.one .emp))])
 (.fg [0, 1] (.seq (.ops false [.m 11 (.t 0), .u 12 (.len (.t 11)), .m 13 (.t 1), .u 14 (.len (.t 13)), .u 15 (.bin .add (.t 12) (.t 14)), .u 16 (.mk 1 [(.lit (.int .u32 0))] (.t 15) (.t 15)), .m 5 (.t 16)])
 (.fg [0, 1, 5] (.seq (.seq (.ops false [.m 17 (.t 0), .u 18 (.len (.t 17)), .m 19 (.i 0)])
 (.fg [1, 5, 17, 18, 19] (.block 0 (.loop (.seq (.ops false [.u 20 (.bin .lss (.t 19) (.t 18))])
 (.fg [1, 5, 17, 18, 19, 20] (.seq (.cond (.t 20) .skip (.exit 0))
 (.fg [1, 5, 17, 18, 19] (.seq (.block 1 (.seq (.ops false [.m 21 (.t 19), .u 22 (.idx 1 (.t 17) (.t 19)), .u 23 (.ld none 1 false (.t 22)), .m 6 (.t 21), .m 7 (.t 23)])
 (.fg [1, 5, 6, 7, 17, 18, 19] (.seq (.ops false [.m 8 (.c (.one (.lit (.int .u64 0))))])
 (.fg [1, 5, 6, 7, 8, 17, 18, 19] (.seq (.seq (.ops false [.m 24 (.t 1), .u 25 (.len (.t 24)), .m 26 (.i 0)])
 (.fg [1, 5, 6, 7, 8, 17, 18, 19, 24, 25, 26] (.block 2 (.loop (.seq (.ops false [.u 27 (.bin .lss (.t 26) (.t 25))])
 (.fg [1, 5, 6, 7, 8, 17, 18, 19, 24, 25, 26, 27] (.seq (.cond (.t 27) .skip (.exit 2))
 (.fg [1, 5, 6, 7, 8, 17, 18, 19, 24, 25, 26] (.seq (.block 3 (.seq (.ops false [.m 28 (.t 26), .u 29 (.idx 1 (.t 24) (.t 26)), .u 30 (.ld none 1 false (.t 29)), .m 9 (.t 28), .m 10 (.t 30)])
 (.fg [1, 5, 6, 7, 8, 9, 10, 17, 18, 19, 24, 25, 26] (.seq (.ops false [.m 31 (.t 8), .m 32 (.t 7), .u 33 (.conv .u64 (.t 32)), .m 34 (.t 10), .u 35 (.conv .u64 (.t 34)), .u 36 (.bin .mul (.t 33) (.t 35)), .m 37 (.t 5), .m 38 (.t 6), .m 39 (.t 9), .u 40 (.bin .add (.t 38) (.t 39)), .u 41 (.idx 1 (.t 37) (.t 40)), .u 42 (.ld none 1 false (.t 41)), .u 43 (.conv .u64 (.t 42)), .u 44 (.bin .add (.t 36) (.t 43)), .u 45 (.bin .add (.t 31) (.t 44)), .m 8 (.t 45)])
 (.fg [1, 5, 6, 7, 8, 9, 17, 18, 19, 24, 25, 26] (.seq (.ops false [.m 46 (.t 5), .m 47 (.t 6), .m 48 (.t 9), .u 49 (.bin .add (.t 47) (.t 48)), .m 50 (.t 8), .u 51 (.conv .u32 (.t 50)), .u 52 (.idx 1 (.t 46) (.t 49)), .n (.st none 1 (.t 52) (.t 51))])
 (.fg [1, 5, 6, 7, 8, 17, 18, 19, 24, 25, 26] (.ops false [.m 53 (.t 8), .u 54 (.bin .shr (.t 53) (.c (.one (.lit (.int .u64 32))))), .m 8 (.t 54)]))))))))
 (.fg [1, 5, 6, 7, 8, 17, 18, 19, 24, 25, 26] (.ops false [.u 55 (.bin .add (.t 26) (.i 1)), .m 26 (.t 55)])))))))))))
 (.fg [1, 5, 6, 8, 17, 18, 19] (.ops false [.m 56 (.t 5), .m 57 (.t 6), .m 58 (.t 1), .u 59 (.len (.t 58)), .u 60 (.bin .add (.t 57) (.t 59)), .m 61 (.t 8), .u 62 (.conv .u32 (.t 61)), .u 63 (.idx 1 (.t 56) (.t 60)), .n (.st none 1 (.t 63) (.t 62))]))))))))
 (.fg [1, 5, 17, 18, 19] (.ops false [.u 64 (.bin .add (.t 19) (.i 1)), .m 19 (.t 64)])))))))))))
 (.fg [5] (.seq (.ops false [.m 65 (.t 5), .u 66 (.call f0 [(.t 65)]), .m 4 (.t 66)])
 .ret)))))))
theorem up_sound (hΓ : Holds P Γ) {f : Nat} (hc : check P f = some (41, ac_integer_up.strip, [.tmp 4])) : Sound P f (.fresh 1 up_G) := by
 refine sound_fresh hc up_good hΓ (fun args K hcl hfi hG => ?_)
 match args, hG with
 | [a, b], hG =>
  obtain ⟨x, rfl, hx, hG⟩ := hG
  obtain ⟨k, m, rfl, rfl, hm, hmB, hxl, hK⟩ := asInt_inv hG
  obtain ⟨m, rfl⟩ : ∃ n : Nat, m = n := ⟨m.toNat, by omega⟩
  simp only [Int.toNat_natCast] at hK
  refine ⟨by simp, ?_⟩
  simp only [go_sem, ac_integer_up]
  intro h1
  refine ⟨by omega, by omega, fun _ => ?_⟩
  refine wpA_loop (fun p : List Nat × Nat => ⟨mkV [(1, .one (.lit (.int .i64 m))), (5, .one (.own 12 1 1 0 (x.length + 1))), (13, wsA x), (14, .one (.lit (.int .i64 x.length))), (15, .one (.lit (.int .i64 p.1.length)))], mkH [(12, ⟨1, some ⟨(p.1 ++ p.2 :: List.replicate (x.length - p.1.length) 0).map wc, 1, true⟩⟩)]⟩)
   (fun p => p.1.length ≤ x.length ∧ WL p.1 ∧ p.2 < 2 ^ m ∧ val p.1 + 4294967296 ^ p.1.length * p.2 = val (x.take p.1.length) * 2 ^ m) (fun p => x.length - p.1.length) ([], 0) ?_ ?_ ?_
  ·exact weak_lit (by simp [okS, okV, okC, okL, okH, okB, okE, mkV_cons, mkV_nil, mkH_cons, mkH_nil, wsA, ws]) (okH_1 (by simp [List.replicate_succ]))
  ·simp [WL_nil, val]; exact Nat.pow_pos (by omega)
  ·rintro ⟨o, c⟩ ⟨hoN, ho, hc1, hval⟩
   simp only at hoN ho hc1 hval
   have hlen : (o ++ c :: List.replicate (x.length - o.length) 0).length = x.length + 1 := by simp; omega
   simp only [go_sem, hlen, List.length_set]
   refine ⟨fun hlt => ?_, fun hge => ?_⟩
   ·have g1 := WL_getD hx o.length
    obtain ⟨s1, s2, s3, s4⟩ := up_step (by omega) hc1 g1
    have e1 : x.getD o.length 0 % 18446744073709551616 = x.getD o.length 0 := by omega
    have hp := pow2_lt (show m < 32 by omega)
    rw [get_at, e1, Nat.mod_eq_of_lt s1, s2, put_at]
    generalize hy : x.getD o.length 0 * 2 ^ m = y at s1 s2 s3 s4
    rw [Nat.mod_eq_of_lt (show y / 4294967296 < 4294967296 by omega)]
    refine ⟨hlt, ⟨rfl, by omega⟩, by omega, by omega, ⟨rfl, by omega, by omega⟩, by omega, by omega, by omega, by omega, by omega, by omega, by omega, (o ++ [y % 4294967296 + c], y / 4294967296), weak_lit (by simp [okS, okV, okC, okL, okH, okB, okE, mkV_cons, mkV_nil, mkH_cons, mkH_nil, wsA, ws]) (okH_1 ?_), ⟨by simp; omega, WL_append.2 ⟨ho, WL_cons.2 ⟨s3, WL_nil⟩⟩, s4, ?_⟩, by simp; omega⟩
    ·rw [show x.length - o.length = (x.length - (o.length + 1)) + 1 by omega, List.replicate_succ, put_at1]; simp
    ·simp only [List.length_append, List.length_cons, List.length_nil, Nat.zero_add, take_succ, val_append, val_cons, val_nil, Nat.mul_zero, Nat.add_zero, Nat.pow_succ]
     rw [up_aux (B := 4294967296) (x := y) hval rfl, Nat.add_mul, ← hy, Nat.mul_assoc]
   ·have e : o.length = x.length := by omega
    have hcB : c < 4294967296 := by have := pow2_lt (show m < 32 by omega); omega
    rw [e, take_all (Nat.le_refl _)] at hval
    simp only [e, Nat.sub_self, List.replicate_zero]
    have hw : WL (o ++ [c]) := WL_append.2 ⟨ho, WL_cons.2 ⟨hcB, WL_nil⟩⟩
    have hv : val (o ++ [c]) = val x * 2 ^ m := by rw [val_append, e]; simpa [val] using hval
    have := dig_val hw
    rw [hv, List.length_append, List.length_singleton, e] at this
    rw [← this]; exact hK
theorem down_sound (hΓ : Holds P Γ) {f fw ft : Nat} (hw : Γ fw = .dat true word_G) (ht : Γ ft = .dat false trim_G) (hc : check P f = some (35, (ac_integer_down fw ft).strip, [.tmp 4])) : Sound P f (.dat false down_G) := by
 refine sound_dat hc down_good hΓ (fun args K hcl hfi hG => ?_)
 match args, hG with
 | [a, b], hG =>
  obtain ⟨x, rfl, hx, hG⟩ := hG
  obtain ⟨k, m, rfl, rfl, hm, hmB, hxl, hK⟩ := asInt_inv hG
  obtain ⟨m, rfl⟩ : ∃ n : Nat, m = n := ⟨m.toNat, by omega⟩
  simp only [Int.toNat_natCast] at hK
  refine ⟨by simp, ?_⟩
  simp only [go_sem, ac_integer_down, hw, ht]
  intro h1
  refine ⟨by omega, fun _ => ?_⟩
  refine wpA_loop (fun o : List Nat => ⟨mkV [(0, wsA x), (1, .one (.lit (.int .i64 m))), (5, .one (.own 9 1 1 0 x.length)), (11, .one (.lit (.int .i64 x.length))), (12, .one (.lit (.int .i64 o.length)))], mkH [(9, ⟨1, some ⟨(o ++ List.replicate (x.length - o.length) 0).map wc, 1, true⟩⟩)]⟩)
   (fun o => o.length ≤ x.length ∧ WL o ∧ val o = val x / 2 ^ m % 4294967296 ^ o.length) (fun o => x.length - o.length) [] ?_ ?_ ?_
  ·exact weak_lit (by simp [okS, okV, okC, okL, okH, okB, okE, mkV_cons, mkV_nil, mkH_cons, mkH_nil, wsA, ws]) (okH_1 (by simp))
  ·simp [WL_nil, val, Nat.mod_one]
  ·rintro o ⟨hoN, ho, hval⟩
   have hlen : (o ++ List.replicate (x.length - o.length) 0).length = x.length := by simp; omega
   simp only [go_sem, hw, ht, hlen]
   refine ⟨fun hlt => ⟨hlt, by omega, hx, ⟨rfl, by omega⟩, ⟨rfl, by omega, by omega⟩, by omega, hlt, hlt, by omega, ?_⟩, fun hge => ?_⟩
   ·have g1 := WL_getD hx o.length
    have g2 := WL_getD hx (o.length + 1)
    have e1 : x.getD o.length 0 % 18446744073709551616 = x.getD o.length 0 := by omega
    have e2 : x.getD (o.length + 1) 0 * 4294967296 % 18446744073709551616 = x.getD (o.length + 1) 0 * 4294967296 := by omega
    rw [e1, e2, or32' _ _ g1, show x.getD (o.length + 1) 0 * 4294967296 + x.getD o.length 0 = x.getD o.length 0 + 4294967296 * x.getD (o.length + 1) 0 by omega, down_step hx (by omega)]
    generalize hv : val x / 2 ^ m / 4294967296 ^ o.length % 4294967296 = v
    have hvB : v < 4294967296 := by rw [← hv]; exact Nat.mod_lt _ (by omega)
    refine ⟨o ++ [v], weak_lit (by simp [okS, okV, okC, okL, okH, okB, okE, mkV_cons, mkV_nil, mkH_cons, mkH_nil, wsA, ws]) (okH_1 ?_), ⟨by simp; omega, WL_append.2 ⟨ho, WL_cons.2 ⟨hvB, WL_nil⟩⟩, ?_⟩, by simp; omega⟩
    ·rw [show x.length - o.length = x.length - (o.length + 1) + 1 by omega, rep_set]; simp
    ·rw [val_append, List.length_append, List.length_singleton, mod_pow_succ, hv, ← hval]; simp [val]
   ·have e : o.length = x.length := by omega
    have hlt : val x / 2 ^ m < 4294967296 ^ x.length := Nat.lt_of_le_of_lt (Nat.div_le_self _ _) (val_lt hx)
    rw [e, Nat.mod_eq_of_lt hlt] at hval
    simp only [e, Nat.sub_self, List.replicate_zero, List.append_nil]
    refine ⟨ho, by omega, ?_⟩
    rw [hval]; exact hK
theorem times_sound (hΓ : Holds P Γ) {f ft : Nat} (ht : Γ ft = .dat false trim_G) (hc : check P f = some (67, (ac_integer_times ft).strip, [.tmp 4])) : Sound P f (.dat false times_G) := by
 refine sound_dat hc times_good hΓ (fun args K hcl hfi hG => ?_)
 match args, hG with
 | [a, b], hG =>
  obtain ⟨x, rfl, hx, y, rfl, hy, hxl, hyl, hK⟩ := hG
  refine ⟨by simp, ?_⟩
  simp only [go_sem, ac_integer_times, ht]
  intro h1 h2
  refine ⟨by omega, by omega, fun _ => ?_⟩
  generalize hN : x.length + y.length = N
  refine wpA_loop (fun p : Nat × List Nat => ⟨mkV [(1, wsA y), (5, .one (.own 16 1 1 0 N)), (17, wsA x), (18, .one (.lit (.int .i64 x.length))), (19, .one (.lit (.int .i64 p.1)))], mkH [(16, ⟨1, some ⟨p.2.map wc, 1, true⟩⟩)]⟩)
   (fun p => p.1 ≤ x.length ∧ WL p.2 ∧ p.2.length = N ∧ val p.2 = val (x.take p.1) * val y ∧ ∀ j, p.1 + y.length ≤ j → p.2.getD j 0 = 0) (fun p => x.length - p.1) (0, List.replicate N 0) ?_ ?_ ?_
  ·exact weak_lit (by simp [okS, okV, okC, okL, okH, okB, okE, mkV_cons, mkV_nil, mkH_cons, mkH_nil, wsA, ws]) (okH_1 (by simp))
  ·simp [WL_rep, val, val_rep]; intro j _; rw [List.getElem?_replicate]; split <;> rfl
  ·rintro ⟨i, o⟩ ⟨hi, ho, hoN, hval, hz⟩
   simp only at hi ho hoN hval hz
   simp only [go_sem, ht, hoN]
   refine ⟨fun hlt => ⟨hlt, fun _ => ?_⟩, fun hge => ?_⟩
   ·have g1 := WL_getD hx i
    refine wpA_loop (fun p : Nat × Nat × List Nat => ⟨mkV [(1, wsA y), (5, .one (.own 16 1 1 0 N)), (6, .one (.lit (.int .i64 i))), (7, .one (.lit (.int .u32 (x.getD i 0 : Nat)))), (8, .one (.lit (.int .u64 p.2.1))), (17, wsA x), (18, .one (.lit (.int .i64 x.length))), (19, .one (.lit (.int .i64 i))), (24, wsA y), (25, .one (.lit (.int .i64 y.length))), (26, .one (.lit (.int .i64 p.1)))], mkH [(16, ⟨1, some ⟨p.2.2.map wc, 1, true⟩⟩)]⟩)
     (fun p => p.1 ≤ y.length ∧ p.2.1 < 4294967296 ∧ WL p.2.2 ∧ p.2.2.length = N ∧ val p.2.2 + 4294967296 ^ i * 4294967296 ^ p.1 * p.2.1 = val (x.take i) * val y + 4294967296 ^ i * x.getD i 0 * val (y.take p.1) ∧ ∀ j, i + y.length ≤ j → p.2.2.getD j 0 = 0) (fun p => y.length - p.1) (0, 0, o) ?_ ?_ ?_
    ·exact weak_lit (by simp [okS, okV, okC, okL, okH, okB, okE, mkV_cons, mkV_nil, mkH_cons, mkH_nil, wsA, ws]) (okH_1 rfl)
    ·exact ⟨Nat.zero_le _, by simp, ho, hoN, by simp [val, hval], hz⟩
    ·rintro ⟨k, c, o⟩ ⟨hk, hc, ho, hoN, hval, hz⟩
     simp only at hk hc ho hoN hval hz
     simp only [go_sem, ht, hoN]
     refine ⟨fun hlt2 => ?_, fun hge2 => ?_⟩
     ·have g2 := WL_getD hy k
      have g3 := WL_getD ho (i + k)
      have s1 := mul_lt64 g1 g2 hc g3
      have e1 : x.getD i 0 % 18446744073709551616 = x.getD i 0 := by omega
      have e2 : y.getD k 0 % 18446744073709551616 = y.getD k 0 := by omega
      have e3 : o.getD (i + k) 0 % 18446744073709551616 = o.getD (i + k) 0 := by omega
      have hstep := times_step hval (by omega) rfl
      rw [e1, e2, e3, Nat.mod_eq_of_lt (show x.getD i 0 * y.getD k 0 < 18446744073709551616 by omega), Nat.mod_eq_of_lt (show x.getD i 0 * y.getD k 0 + o.getD (i + k) 0 < 18446744073709551616 by omega), Nat.mod_eq_of_lt s1]
      generalize hs : c + (x.getD i 0 * y.getD k 0 + o.getD (i + k) 0) = s at s1 hstep
      refine ⟨hlt2, by omega, by omega, by omega, by omega, by omega, by omega, by omega, by omega, (k + 1, s / 4294967296, o.set (i + k) (s % 4294967296)), weak_lit (by simp [okS, okV, okC, okL, okH, okB, okE, mkV_cons, mkV_nil, mkH_cons, mkH_nil, wsA, ws]) (okH_1 rfl), ⟨by simp only; omega, by simp only; omega, WL_set ho _ (Nat.mod_lt _ (by omega)), by simp [hoN], hstep, ?_⟩, by simp only; omega⟩
      intro j hj
      simp only
      rw [Num.getD_set_ne (by omega)]; exact hz j hj
     ·have e : k = y.length := by omega
      subst e
      have hend := times_end hval (by omega) (hz _ (Nat.le_refl _))
      rw [Nat.mod_eq_of_lt hc]
      refine fun _ => ⟨by omega, by omega, by omega, by omega, (i + 1, o.set (i + y.length) c), weak_lit (by simp [okS, okV, okC, okL, okH, okB, okE, mkV_cons, mkV_nil, mkH_cons, mkH_nil, wsA, ws]) (okH_1 rfl), ⟨by simp only; omega, WL_set ho _ hc, by simp [hoN], hend, ?_⟩, by simp only; omega⟩
      intro j hj
      simp only at hj ⊢
      rw [Num.getD_set_ne (by omega)]; exact hz j (by omega)
   ·have e : i = x.length := by omega
    subst e
    rw [take_all (Nat.le_refl _)] at hval
    refine ⟨ho, by omega, ?_⟩
    rw [hval]; exact hK
end Go.Abs
end
section
set_option linter.unusedVariables false
set_option linter.unusedSimpArgs false
set_option maxRecDepth 100000
namespace Go.Abs
open Go.Num
variable {P : Program} {Γ : Nat → Spec}
def ac_integer_remove (f0 : Nat) : AC := (.seq (.ops false [.m 6 .fa])
 (.fg [0, 1, 2] (.seq (.ops false [.m 7 (.c (.one (.lit (.int .u64 0)))), .m 8 (.c (.one (.lit (.int .u64 0))))])
 (.fg [0, 1, 2, 7, 8] (.seq (.seq (.ops false [.m 11 (.t 0), .u 12 (.len (.t 11)), .m 13 (.i 0)])
 (.fg [0, 1, 2, 7, 8, 12, 13] (.block 0 (.loop (.seq (.ops false [.u 14 (.bin .lss (.t 13) (.t 12))])
 (.fg [0, 1, 2, 7, 8, 12, 13, 14] (.seq (.cond (.t 14) .skip (.exit 0))
 (.fg [0, 1, 2, 7, 8, 12, 13] (.seq (.block 1 (.seq (.ops false [.m 15 (.t 13), .m 9 (.t 15)])
 (.fg [0, 1, 2, 7, 8, 9, 12, 13] (.seq (.ops false [.m 16 (.t 7), .m 17 (.t 2), .m 18 (.t 1), .m 19 (.t 9), .u 20 (.call f0 [(.t 18), (.t 19)]), .u 21 (.bin .mul (.t 17) (.t 20)), .u 22 (.bin .add (.t 16) (.t 21)), .m 7 (.t 22)])
 (.fg [0, 1, 2, 7, 8, 9, 12, 13] (.seq (.ops false [.m 23 (.t 0), .m 24 (.t 9), .u 25 (.idx 1 (.t 23) (.t 24)), .u 26 (.ld none 1 false (.t 25)), .u 27 (.conv .u64 (.t 26)), .m 28 (.t 7), .u 29 (.conv .u32 (.t 28)), .u 30 (.conv .u64 (.t 29)), .u 31 (.bin .sub (.t 27) (.t 30)), .m 32 (.t 8), .u 33 (.bin .sub (.t 31) (.t 32)), .m 10 (.t 33)])
 (.fg [0, 1, 2, 7, 9, 10, 12, 13] (.seq (.ops false [.m 34 (.t 0), .m 35 (.t 9), .m 36 (.t 10), .u 37 (.conv .u32 (.t 36)), .u 38 (.idx 1 (.t 34) (.t 35)), .n (.st none 1 (.t 38) (.t 37))])
 (.fg [0, 1, 2, 7, 10, 12, 13] (.seq (.ops false [.m 39 (.t 10), .u 40 (.bin .shr (.t 39) (.c (.one (.lit (.int .u64 63))))), .m 8 (.t 40)])
 (.fg [0, 1, 2, 7, 8, 12, 13] (.ops false [.m 41 (.t 7), .u 42 (.bin .shr (.t 41) (.c (.one (.lit (.int .u64 32))))), .m 7 (.t 42)]))))))))))))
 (.fg [0, 1, 2, 7, 8, 12, 13] (.ops false [.u 43 (.bin .add (.t 13) (.i 1)), .m 13 (.t 43)])))))))))))
 (.fg [8] (.seq (.ops false [.m 44 (.t 8), .u 45 (.bin .eql (.t 44) (.c (.one (.lit (.int .u64 1))))), .m 6 (.t 45)])
 .ret)))))))
def ac_integer_back (f0 : Nat) : AC := (.seq (.ops false [.m 4 (.c (.one (.lit (.int .u64 0))))])
 (.fg [0, 1, 4] (.seq (.ops false [.m 6 (.t 0), .u 7 (.len (.t 6)), .m 8 (.i 0)])
 (.fg [0, 1, 4, 7, 8] (.block 0 (.loop (.seq (.ops false [.u 9 (.bin .lss (.t 8) (.t 7))])
 (.fg [0, 1, 4, 7, 8, 9] (.seq (.cond (.t 9) .skip (.exit 0))
 (.fg [0, 1, 4, 7, 8] (.seq (.block 1 (.seq (.ops false [.m 10 (.t 8), .m 5 (.t 10)])
 (.fg [0, 1, 4, 5, 7, 8] (.seq (.ops true [.m 11 (.t 4), .m 12 (.t 0), .m 13 (.t 5), .u 14 (.idx 1 (.t 12) (.t 13)), .u 15 (.ld none 1 false (.t 14)), .u 16 (.conv .u64 (.t 15)), .m 17 (.t 1), .m 18 (.t 5), .u 19 (.call f0 [(.t 17), (.t 18)]), .u 20 (.bin .add (.t 16) (.t 19)), .u 21 (.bin .add (.t 11) (.t 20)), .m 4 (.t 21)])
 (.fg [0, 1, 4, 5, 7, 8] (.seq (.ops false [.m 22 (.t 0), .m 23 (.t 5), .m 24 (.t 4), .u 25 (.conv .u32 (.t 24)), .u 26 (.idx 1 (.t 22) (.t 23)), .n (.st none 1 (.t 26) (.t 25))])
 (.fg [0, 1, 4, 7, 8] (.ops false [.m 27 (.t 4), .u 28 (.bin .shr (.t 27) (.c (.one (.lit (.int .u64 32))))), .m 4 (.t 28)]))))))))
 (.fg [0, 1, 4, 7, 8] (.ops false [.u 29 (.bin .add (.t 8) (.i 1)), .m 8 (.t 29)])))))))))))))
theorem remove_sound (hΓ : Holds P Γ) {f fw : Nat} (hw : Γ fw = .dat true word_G) (hc : check P f = some (46, (ac_integer_remove fw).strip, [.tmp 6])) : Sound P f (.own remove_G) := by
 refine sound_own hc hΓ (fun d args h K hG => ?_)
 unfold remove_G at hG
 split at hG
 case h_2 => exact hG.elim
 rename_i r ver off len b n
 obtain ⟨v, rfl, hv, pre, seg, post, m, rfl, rfl, rfl, hr, hseg, hm, hvl, hlt, hsl, hK⟩ := hG
 refine ⟨[r], [⟨(pre ++ seg ++ post).map wc, 1, true⟩], [.one (.own 1048576 ver 1 pre.length seg.length), wsA v, .one (.lit (.int .u64 m))], by simp, rfl, ?_, ?_, ?_, fun hfi => ⟨by simp, ?_⟩⟩
 ·intro i r' b h1 h2
  cases i with
  | zero => simp only [List.getElem?_cons_zero, Option.some.injEq] at h1 h2; subst h1 h2; exact ⟨by rw [hr], rfl, of_eq_true (clean_ws _)⟩
  | succ i => simp at h1
 ·simp [exA, exC, exB, nameOf, pinA, wsA, ws]
 ·intro a ha
  simp only [List.mem_cons, List.not_mem_nil, or_false] at ha
  rcases ha with rfl | rfl | rfl
  ·simp [pasA, pasC, pasB, nameOf, pinA]
  ·exact .slice _ (of_eq_true (clean_ws _))
  ·exact .lit _
 simp only [go_sem, ac_integer_remove, hw, hr]
 intro h1
 refine wpA_loop (fun p : List Nat × Nat × Nat × Nat => ⟨mkV [(0, .one (.own 1048576 ver 1 pre.length seg.length)), (1, wsA v), (2, .one (.lit (.int .u64 m))), (7, .one (.lit (.int .u64 p.2.1))), (8, .one (.lit (.int .u64 p.2.2.1))), (12, .one (.lit (.int .i64 seg.length))), (13, .one (.lit (.int .i64 p.1.length)))],
   mkH [(1048576, ⟨ver, some ⟨(pre ++ (p.1 ++ seg.drop p.1.length) ++ post).map wc, 1, true⟩⟩)]⟩)
  (fun p => p.1.length ≤ seg.length ∧ WL p.1 ∧ (p.2.1 = 0 ∨ p.2.1 < m) ∧ p.2.2.1 ≤ 1 ∧ p.2.2.2 + 4294967296 ^ p.1.length * p.2.1 = m * val (v.take p.1.length) ∧ val p.1 + p.2.2.2 = val (seg.take p.1.length) + 4294967296 ^ p.1.length * p.2.2.1) (fun p => seg.length - p.1.length) ([], 0, 0, 0) ?_ ?_ ?_
 ·exact weak_lit (by simp [okS, okV, okC, okL, okH, okB, okE, mkV_cons, mkV_nil, mkH_cons, mkH_nil, wsA, ws]) (okH_1 (by simp))
 ·simp [WL_nil, val]
 ·rintro ⟨o, c, bw, p⟩ ⟨hoN, ho, hc1, hb1, hp1, hp2⟩
  simp only at hoN ho hc1 hb1 hp1 hp2
  have hlen : (pre ++ (o ++ seg.drop o.length) ++ post).length = pre.length + seg.length + post.length := by simp; omega
  simp only [go_sem, hw, hr, hlen]
  refine ⟨fun hlt2 => ?_, fun hge => ?_⟩
  ·have g1 := WL_getD hseg o.length
   have g2 := WL_getD hv o.length
   obtain ⟨s1, s2⟩ := rem_carry hm g2 hc1
   have a1 := rem_aux1 (B := 4294967296) (v := v.getD o.length 0) hp1
   have e1 : m * v.getD o.length 0 % 18446744073709551616 = m * v.getD o.length 0 := Nat.mod_eq_of_lt (by omega)
   have e2 : seg.getD o.length 0 % 18446744073709551616 = seg.getD o.length 0 := by omega
   rw [get_mid _ _ _ _ hlt2, e1, e2, Nat.mod_eq_of_lt s1, set_mid _ _ _ _ _ hlt2]
   generalize hs : c + m * v.getD o.length 0 = s at s1 s2 a1
   have e3 : s % 4294967296 % 18446744073709551616 = s % 4294967296 := by omega
   rw [e3]
   obtain ⟨t1, t2⟩ := sub_step (b := s % 4294967296) g1 (by omega) hb1
   generalize sub64 (sub64 (seg.getD o.length 0) (s % 4294967296)) bw = d at t1 t2
   have a2 := rem_aux2 hp2 t1
   refine ⟨hv, hlt2, by omega, hlt2, by omega, by omega, by omega, by omega, (o ++ [d % 4294967296], s / 4294967296, d / 9223372036854775808, p + 4294967296 ^ o.length * (s % 4294967296)), weak_lit (by simp [okS, okV, okC, okL, okH, okB, okE, mkV_cons, mkV_nil, mkH_cons, mkH_nil, wsA, ws]) (okH_1 rfl), ⟨by simp; omega, WL_append.2 ⟨ho, WL_cons.2 ⟨Nat.mod_lt _ (by omega), WL_nil⟩⟩, s2, t2, ?_, ?_⟩, by simp; omega⟩
   ·simp only [List.length_append, List.length_cons, List.length_nil, Nat.zero_add, take_succ, Nat.pow_succ]
    exact a1
   ·simp only [List.length_append, List.length_cons, List.length_nil, Nat.zero_add, take_succ, val_append, val_cons, val_nil, Nat.mul_zero, Nat.add_zero, Nat.pow_succ]
    exact a2
  ·have e : o.length = seg.length := by omega
   rw [e] at hp1 hp2
   rw [take_all hvl] at hp1
   rw [take_all (Nat.le_refl _)] at hp2
   obtain ⟨t1, t2⟩ := rem_end ho e hp1 hlt hp2 hb1
   rw [List.drop_of_length_le (by omega), List.append_nil]
   rw [← t1] at hK
   have : (decide ((bw : Int) = 1)) = decide (val seg < m * val v) := by
    rw [decide_eq_decide, ← t2]; omega
   rw [this]; exact hK
theorem back_sound (hΓ : Holds P Γ) {f fw : Nat} (hw : Γ fw = .dat true word_G) (hc : check P f = some (30, (ac_integer_back fw).strip, [])) : Sound P f (.own back_G) := by
 refine sound_own hc hΓ (fun d args h K hG => ?_)
 unfold back_G at hG
 split at hG
 case h_2 => exact hG.elim
 rename_i r ver off len b
 obtain ⟨v, rfl, hv, pre, seg, post, rfl, rfl, hr, hseg, hvl, hsl, hK⟩ := hG
 refine ⟨[r], [⟨(pre ++ seg ++ post).map wc, 1, true⟩], [.one (.own 1048576 ver 1 pre.length seg.length), wsA v], by simp, rfl, ?_, ?_, ?_, fun hfi => ⟨by simp, ?_⟩⟩
 ·intro i r' b h1 h2
  cases i with
  | zero => simp only [List.getElem?_cons_zero, Option.some.injEq] at h1 h2; subst h1 h2; exact ⟨by rw [hr], rfl, of_eq_true (clean_ws _)⟩
  | succ i => simp at h1
 ·simp [exA, exC, exB, nameOf, pinA, wsA, ws]
 ·intro a ha
  simp only [List.mem_cons, List.not_mem_nil, or_false] at ha
  rcases ha with rfl | rfl
  ·simp [pasA, pasC, pasB, nameOf, pinA]
  ·exact .slice _ (of_eq_true (clean_ws _))
 simp only [go_sem, ac_integer_back, hw, hr]
 intro h1
 refine wpA_loop (fun p : List Nat × Nat => ⟨mkV [(0, .one (.own 1048576 ver 1 pre.length seg.length)), (1, wsA v), (4, .one (.lit (.int .u64 p.2))), (7, .one (.lit (.int .i64 seg.length))), (8, .one (.lit (.int .i64 p.1.length)))],
   mkH [(1048576, ⟨ver, some ⟨(pre ++ (p.1 ++ seg.drop p.1.length) ++ post).map wc, 1, true⟩⟩)]⟩)
  (fun p => p.1.length ≤ seg.length ∧ WL p.1 ∧ p.2 ≤ 1 ∧ val p.1 + 4294967296 ^ p.1.length * p.2 = val (seg.take p.1.length) + val (v.take p.1.length)) (fun p => seg.length - p.1.length) ([], 0) ?_ ?_ ?_
 ·exact weak_lit (by simp [okS, okV, okC, okL, okH, okB, okE, mkV_cons, mkV_nil, mkH_cons, mkH_nil, wsA, ws]) (okH_1 (by simp))
 ·simp [WL_nil, val]
 ·rintro ⟨o, c⟩ ⟨hoN, ho, hc1, hp1⟩
  simp only at hoN ho hc1 hp1
  have hlen : (pre ++ (o ++ seg.drop o.length) ++ post).length = pre.length + seg.length + post.length := by simp; omega
  simp only [go_sem, hw, hr, hlen]
  refine ⟨fun hlt2 => ?_, fun hge => ?_⟩
  ·have g1 := WL_getD hseg o.length
   have g2 := WL_getD hv o.length
   have e2 : seg.getD o.length 0 % 18446744073709551616 = seg.getD o.length 0 := by omega
   rw [get_mid _ _ _ _ hlt2, e2, Nat.mod_eq_of_lt (show seg.getD o.length 0 + v.getD o.length 0 < 18446744073709551616 by omega), Nat.mod_eq_of_lt (show c + (seg.getD o.length 0 + v.getD o.length 0) < 18446744073709551616 by omega), set_mid _ _ _ _ _ hlt2]
   have a1 := back_aux (B := 4294967296) (a := seg.getD o.length 0) (b := v.getD o.length 0) hp1 rfl
   generalize hs : c + (seg.getD o.length 0 + v.getD o.length 0) = s at a1
   refine ⟨hlt2, by omega, hv, hlt2, by omega, by omega, by omega, (o ++ [s % 4294967296], s / 4294967296), weak_lit (by simp [okS, okV, okC, okL, okH, okB, okE, mkV_cons, mkV_nil, mkH_cons, mkH_nil, wsA, ws]) (okH_1 rfl), ⟨by simp; omega, WL_append.2 ⟨ho, WL_cons.2 ⟨Nat.mod_lt _ (by omega), WL_nil⟩⟩, by simp only; omega, ?_⟩, by simp; omega⟩
   simp only [List.length_append, List.length_cons, List.length_nil, Nat.zero_add, take_succ, val_append, val_cons, val_nil, Nat.mul_zero, Nat.add_zero, Nat.pow_succ]
   exact a1
  ·have e : o.length = seg.length := by omega
   rw [e, take_all hvl, take_all (Nat.le_refl _)] at hp1
   have t1 := back_end ho e hp1
   rw [List.drop_of_length_le (by omega), List.append_nil]
   rw [← t1] at hK
   exact hK
end Go.Abs
end
section
set_option linter.unusedVariables false
namespace Go.Num
theorem dig_append : ∀ (a b X : Nat), dig (a + b) X = dig a X ++ dig b (X / 4294967296 ^ a)
 | 0, b, X => by simp [dig]
 | a + 1, b, X => by
  rw [show a + 1 + b = (a + b) + 1 by omega, dig, dig, dig_append a b, Nat.div_div_eq_div_mul, Nat.pow_succ, Nat.mul_comm 4294967296]; simp
theorem dig_zero : ∀ k, dig k 0 = List.replicate k 0
 | 0 => rfl
 | k + 1 => by rw [dig, Nat.zero_mod, Nat.zero_div, dig_zero k, List.replicate_succ]
theorem dig_get : ∀ (k i X : Nat), i < k → (dig k X).getD i 0 = X / 4294967296 ^ i % 4294967296
 | k + 1, 0, X, _ => by simp [dig]
 | k + 1, i + 1, X, h => by
  rw [dig, List.getD_cons_succ, dig_get k i _ (by omega), Nat.div_div_eq_div_mul, Nat.pow_succ, Nat.mul_comm 4294967296]
theorem dig_mod : ∀ (k X : Nat), dig k (X % 4294967296 ^ k) = dig k X := by
 intro k X
 refine val_inj (dig_WL _ _) (dig_WL _ _) (by rw [dig_length, dig_length]) ?_
 rw [val_dig, val_dig, Nat.mod_mod]
theorem dig_low {j X Y : Nat} : dig j (X % 4294967296 ^ j + 4294967296 ^ j * Y) = dig j X := by
 rw [← dig_mod, Nat.add_mul_mod_self_left, Nat.mod_mod, dig_mod]
theorem dig_split {L j n X : Nat} (h : j + (n + 1) ≤ L) (hX : X / 4294967296 ^ j < 4294967296 ^ (n + 1)) :
  dig L X = dig j X ++ dig (n + 1) (X / 4294967296 ^ j) ++ List.replicate (L - (j + (n + 1))) 0 := by
 conv => lhs; rw [show L = j + (n + 1) + (L - (j + (n + 1))) by omega]
 rw [dig_append, dig_append, Nat.pow_add, ← Nat.div_div_eq_div_mul, Nat.div_eq_of_lt hX, dig_zero]
theorem dig_join {L j n X R : Nat} (h : j + (n + 1) ≤ L) (hR : R < 4294967296 ^ (n + 1)) :
  dig j X ++ dig (n + 1) R ++ List.replicate (L - (j + (n + 1))) 0 = dig L (X % 4294967296 ^ j + 4294967296 ^ j * R) := by
 have e : (X % 4294967296 ^ j + 4294967296 ^ j * R) / 4294967296 ^ j = R := by
  rw [Nat.add_mul_div_left _ _ (pow_pos j), Nat.div_eq_of_lt (Nat.mod_lt _ (pow_pos j)), Nat.zero_add]
 rw [dig_split h (by rw [e]; exact hR), e, dig_low]
structure Step (B n V P top next head u2 : Nat) : Prop where
 hB : 2 ≤ B
 hn : 2 ≤ n
 vlow : ∃ l, V = (top * B + next) * B ^ (n - 2) + l ∧ l < B ^ (n - 2)
 plow : ∃ l, P = (head * B + u2) * B ^ (n - 2) + l ∧ l < B ^ (n - 2)
 nextB : next < B
 topB : top < B
 half : B ≤ 2 * top
 u2B : u2 < B
 lt : P < V * B
namespace Step
variable {B n V P top next head u2 : Nat}
theorem vpos (s : Step B n V P top next head u2) : 0 < V := by
 obtain ⟨l, h, _⟩ := s.vlow
 have : 0 < B ^ (n - 2) := Nat.pow_pos (by have := s.hB; omega)
 have h2 : 0 < top * B + next := by
  have := Nat.mul_pos (show 0 < top by have := s.half; have := s.hB; omega) (show 0 < B by have := s.hB; omega)
  omega
 have := Nat.mul_pos h2 this
 omega
theorem down (s : Step B n V P top next head u2) {g r : Nat} (hg : g * top + r = head) (h : B ≤ g ∨ r * B + u2 < g * next) : P / V < g := by
 rw [Nat.div_lt_iff_lt_mul s.vpos]
 rcases h with h | h
 ·have h1 := Nat.mul_le_mul_right V h
  have := s.lt
  rw [Nat.mul_comm V] at this
  omega
 ·obtain ⟨lv, hv, hlv⟩ := s.vlow
  obtain ⟨lp, hp, hlp⟩ := s.plow
  generalize B ^ (n - 2) = p at hv hlv hp hlp
  have h1 : head * B + u2 + 1 ≤ g * (top * B + next) := by
   rw [← hg]
   have : (g * top + r) * B = g * (top * B) + r * B := by rw [Nat.add_mul, Nat.mul_assoc]
   rw [this, Nat.mul_add]
   omega
  have h2 := Nat.mul_le_mul_right p h1
  rw [Nat.add_mul, Nat.one_mul] at h2
  have h3 : g * (top * B + next) * p ≤ g * V := by
   rw [Nat.mul_assoc]; exact Nat.mul_le_mul_left _ (by omega)
  omega
theorem stop (s : Step B n V P top next head u2) {g r : Nat} (hg : g * top + r = head) (hgB : g ≤ B) (h : B ≤ r ∨ (g < B ∧ g * next ≤ r * B + u2)) : g * V ≤ P + V := by
 obtain ⟨lv, hv, hlv⟩ := s.vlow
 obtain ⟨lp, hp, hlp⟩ := s.plow
 have hB := s.hB
 have hn := s.hn
 have hpp : 0 < B ^ (n - 2) := Nat.pow_pos (by omega)
 have h1 : g * (top * B + next) ≤ head * B + u2 := by
  rw [← hg, Nat.add_mul, Nat.mul_add, Nat.mul_assoc]
  rcases h with h | h
  ·have h3 : g * next ≤ B * B := Nat.mul_le_mul hgB (Nat.le_of_lt s.nextB)
   have h4 : B * B ≤ r * B := Nat.mul_le_mul_right _ h
   omega
  ·omega
 have hVtop : B * B ^ (n - 2) ≤ V := by
  have : B ≤ top * B := Nat.le_mul_of_pos_left _ (by have := s.half; omega)
  have := Nat.mul_le_mul_right (B ^ (n - 2)) (show B ≤ top * B + next by omega)
  omega
 generalize B ^ (n - 2) = p at hv hlv hp hlp hpp hVtop
 have h2 := Nat.mul_le_mul_right p h1
 have h5 : g * V ≤ g * ((top * B + next) * p) + g * p := by
  rw [hv, Nat.mul_add]; exact Nat.add_le_add_left (Nat.mul_le_mul_left _ (Nat.le_of_lt hlv)) _
 have h6 : g * p ≤ B * p := Nat.mul_le_mul_right _ hgB
 rw [← Nat.mul_assoc] at h5
 omega
theorem first (s : Step B n V P top next head u2) : head / top ≤ B + 1 ∧ P / V ≤ head / top := by
 have hB := s.hB
 have ht : 0 < top := by have := s.half; omega
 obtain ⟨lv, hv, hlv⟩ := s.vlow
 obtain ⟨lp, hp, hlp⟩ := s.plow
 have hlt := s.lt
 have hnext := s.nextB
 have hu2 := s.u2B
 constructor
 ·have h1 : head ≤ top * B + next := by
   rcases Nat.lt_or_ge (top * B + next) head with h | h
   ·exfalso
    have h2 := Nat.mul_le_mul_right (B ^ (n - 2)) (Nat.mul_le_mul_right B h)
    have h3 : (top * B + next + 1) * B * B ^ (n - 2) = ((top * B + next) * B ^ (n - 2) + B ^ (n - 2)) * B := by
     generalize B ^ (n - 2) = p
     grind
    rw [Nat.succ_eq_add_one, h3] at h2
    have h4 : V * B ≤ ((top * B + next) * B ^ (n - 2) + B ^ (n - 2)) * B := Nat.mul_le_mul_right _ (by omega)
    have h5 : head * B * B ^ (n - 2) ≤ P := by
     rw [hp, Nat.add_mul]; omega
    omega
   ·exact h
  have h2 : head < (B + 2) * top := by
   have := s.half
   have : (B + 2) * top = top * B + 2 * top := by rw [Nat.add_mul, Nat.mul_comm B]
   omega
  have := (Nat.div_lt_iff_lt_mul ht).2 h2
  omega
 ·have : P / V < head / top + 1 := by
   rw [Nat.div_lt_iff_lt_mul s.vpos]
   have h1 : head < (head / top + 1) * top := by
    have := Nat.div_add_mod head top
    have := Nat.mod_lt head ht
    rw [Nat.add_mul, Nat.one_mul, Nat.mul_comm (head / top)]
    omega
   have h2 : head + 1 ≤ (head / top + 1) * top := h1
   have h3 := Nat.mul_le_mul_right (B ^ (n - 2)) (Nat.mul_le_mul_right B h2)
   have h4 : (head / top + 1) * top * B * B ^ (n - 2) ≤ (head / top + 1) * V := by
    rw [Nat.mul_assoc, Nat.mul_assoc]
    refine Nat.mul_le_mul_left _ ?_
    rw [hv, Nat.add_mul, ← Nat.mul_assoc]
    omega
   have h5 : P < (head + 1) * B * B ^ (n - 2) := by
    rw [hp]
    have : (head * B + u2 + 1) * B ^ (n - 2) ≤ (head + 1) * B * B ^ (n - 2) := Nat.mul_le_mul_right _ (by rw [Nat.add_mul, Nat.one_mul]; omega)
    rw [Nat.add_mul, Nat.one_mul] at this
    omega
   omega
  omega
theorem left (s : Step B n V P top next head u2) {g : Nat} (h1 : P / V ≤ g) (h2 : g * V ≤ P + V) :
  (P < g * V → g = P / V + 1) ∧ (¬ P < g * V → g = P / V) := by
 have hv := s.vpos
 have e := Nat.div_add_mod P V
 have m := Nat.mod_lt P hv
 constructor
 ·intro h
  have h3 : g ≤ P / V + 1 := by
   rcases Nat.lt_or_ge (P / V + 1) g with h4 | h4
   ·exfalso
    have := Nat.mul_le_mul_right V (show P / V + 2 ≤ g from h4)
    rw [Nat.add_mul, Nat.mul_comm (P / V)] at this
    omega
   ·exact h4
  have h5 : P / V < g := by rw [Nat.div_lt_iff_lt_mul hv]; exact h
  omega
 ·intro h
  have : g ≤ P / V := by rw [Nat.le_div_iff_mul_le hv]; omega
  omega
theorem quot (s : Step B n V P top next head u2) : P / V < B := by
 rw [Nat.div_lt_iff_lt_mul s.vpos, Nat.mul_comm]; exact s.lt
end Step
theorem dig_take (n k X : Nat) : (dig (n + k) X).take n = dig n X := by
 rw [dig_append, List.take_append_of_le_length (by rw [dig_length]; exact Nat.le_refl _), List.take_of_length_le (by rw [dig_length]; exact Nat.le_refl _)]
theorem bitLen_log {t : Nat} (h0 : 0 < t) (h : t < 4294967296) : Lib.bitLen t = Nat.log2 t + 1 := by
 have h1 : 2 ^ Nat.log2 t ≤ t := Nat.log2_self_le (by omega)
 have h2 : t < 2 ^ (Nat.log2 t + 1) := Nat.lt_log2_self
 rw [Lib.bitLen_shift _ _ h1 (by omega)]
 have : t / 2 ^ Nat.log2 t = 1 := by
  rw [Nat.pow_succ] at h2
  have hp : 0 < 2 ^ Nat.log2 t := Nat.pow_pos (by omega)
  generalize 2 ^ Nat.log2 t = p at h1 h2 hp
  have a : t / p < 2 := (Nat.div_lt_iff_lt_mul hp).2 (by omega)
  have b : 1 ≤ t / p := (Nat.le_div_iff_mul_le hp).2 (by omega)
  omega
 rw [this]; rfl
theorem lz_spec {t : Nat} (h0 : 0 < t) (h : t < 4294967296) : ∃ s : Nat, s < 32 ∧ (32 - (Lib.bitLen t : Int)) = s ∧ 2147483648 ≤ t * 2 ^ s ∧ (t + 1) * 2 ^ s ≤ 4294967296 := by
 have h1 : 2 ^ Nat.log2 t ≤ t := Nat.log2_self_le (by omega)
 have h2 : t < 2 ^ (Nat.log2 t + 1) := Nat.lt_log2_self
 have hl : Nat.log2 t < 32 := by rw [Nat.log2_lt (by omega)]; exact h
 rw [bitLen_log h0 h]
 refine ⟨31 - Nat.log2 t, by omega, by omega, ?_, ?_⟩
 ·have := Nat.mul_le_mul_right (2 ^ (31 - Nat.log2 t)) h1
  rw [← Nat.pow_add, show Nat.log2 t + (31 - Nat.log2 t) = 31 by omega] at this
  exact this
 ·have := Nat.mul_le_mul_right (2 ^ (31 - Nat.log2 t)) (show t + 1 ≤ _ from h2)
  rw [← Nat.pow_add, show Nat.log2 t + 1 + (31 - Nat.log2 t) = 32 by omega] at this
  exact this
theorem shifted {y : List Nat} {s : Nat} (hy : WL y) (hn : 0 < y.length) (h1 : 2147483648 ≤ y.getD (y.length - 1) 0 * 2 ^ s) (h2 : (y.getD (y.length - 1) 0 + 1) * 2 ^ s ≤ 4294967296) :
  val y * 2 ^ s < 4294967296 ^ y.length ∧ 4294967296 ^ y.length ≤ 2 * (val y * 2 ^ s) := by
 have e := val_split y (y.length - 1) (by omega)
 rw [List.drop_of_length_le (by omega), val_nil, Nat.mul_zero, Nat.add_zero] at e
 have hl := val_lt (WL_take hy (y.length - 1))
 rw [List.length_take, Nat.min_eq_left (by omega)] at hl
 rw [e, pow_pred hn]
 generalize y.getD (y.length - 1) 0 = t at *
 generalize 4294967296 ^ (y.length - 1) = p at *
 generalize val (y.take (y.length - 1)) = v at *
 have hs : 0 < 2 ^ s := Nat.pow_pos (by omega)
 generalize 2 ^ s = q at *
 have a1 := Nat.mul_le_mul_left p h1
 have a2 := Nat.mul_le_mul_left p h2
 have a3 := (Nat.mul_lt_mul_right hs).2 hl
 rw [Nat.add_mul, Nat.one_mul, Nat.mul_add] at a2
 rw [Nat.add_mul, Nat.mul_assoc p t q]
 constructor
 ·omega
 ·have : 2 * (p * 2147483648) = p * (2 * 2147483648) := Nat.mul_left_comm _ _ _
  rw [show 2 * 2147483648 = 4294967296 from rfl] at this
  rw [← this]
  exact Nat.mul_le_mul_left 2 (Nat.le_trans a1 (Nat.le_add_left _ _))
theorem start_lt {x y : List Nat} {s : Nat} (hx : WL x) (hs : s < 32) (hV : 4294967296 ^ y.length ≤ 2 * (val y * 2 ^ s)) (hl : y.length ≤ x.length + 1) :
  val x * 2 ^ s < val y * 2 ^ s * 4294967296 ^ (x.length + 1 - y.length) := by
 have h1 := val_lt hx
 have h2 := pow2_lt hs
 have h3 : 4294967296 ^ x.length * 4294967296 = 4294967296 ^ y.length * 4294967296 ^ (x.length + 1 - y.length) := by
  rw [← Nat.pow_succ, ← Nat.pow_add]; congr 1; omega
 have h4 := Nat.mul_le_mul_right (4294967296 ^ (x.length + 1 - y.length)) hV
 rw [← h3, Nat.mul_assoc] at h4
 have h5 : val x * 2 ^ s < 4294967296 ^ x.length * 2147483648 :=
  Nat.lt_of_lt_of_le ((Nat.mul_lt_mul_right (Nat.pow_pos (by omega))).2 h1) (Nat.mul_le_mul_left _ h2)
 omega
theorem step_of {n V P : Nat} (hn : 2 ≤ n) (hV1 : V < 4294967296 ^ n) (hV2 : 4294967296 ^ n ≤ 2 * V) (hP : P < V * 4294967296) :
  Step 4294967296 n V P (V / 4294967296 ^ (n - 1) % 4294967296) (V / 4294967296 ^ (n - 2) % 4294967296) (P / 4294967296 ^ n % 4294967296 * 4294967296 + P / 4294967296 ^ (n - 1) % 4294967296) (P / 4294967296 ^ (n - 2) % 4294967296) := by
 have e1 : 4294967296 ^ n = 4294967296 ^ (n - 1) * 4294967296 := pow_pred (by omega)
 have e2 : 4294967296 ^ (n - 1) = 4294967296 ^ (n - 2) * 4294967296 := by rw [pow_pred (show 0 < n - 1 by omega), show n - 1 - 1 = n - 2 by omega]
 have hp := pow_pos (n - 2)
 have ht : V / 4294967296 ^ (n - 1) < 4294967296 := by
  rw [Nat.div_lt_iff_lt_mul (pow_pos _), Nat.mul_comm, ← e1]; exact hV1
 have hh : P / 4294967296 ^ n < 4294967296 := by
  rw [Nat.div_lt_iff_lt_mul (pow_pos _)]
  have := (Nat.mul_lt_mul_right (show 0 < 4294967296 by omega)).2 hV1
  rw [Nat.mul_comm (4294967296 ^ n)] at this
  omega
 have q1 : V / 4294967296 ^ (n - 1) = V / 4294967296 ^ (n - 2) / 4294967296 := by rw [e2, Nat.div_div_eq_div_mul]
 have q2 : P / 4294967296 ^ (n - 1) = P / 4294967296 ^ (n - 2) / 4294967296 := by rw [e2, Nat.div_div_eq_div_mul]
 have q3 : P / 4294967296 ^ n = P / 4294967296 ^ (n - 1) / 4294967296 := by rw [e1, Nat.div_div_eq_div_mul]
 refine ⟨by omega, hn, ⟨V % 4294967296 ^ (n - 2), ?_, Nat.mod_lt _ hp⟩, ⟨P % 4294967296 ^ (n - 2), ?_, Nat.mod_lt _ hp⟩, Nat.mod_lt _ (by omega), Nat.mod_lt _ (by omega), ?_, Nat.mod_lt _ (by omega), hP⟩
 ·rw [Nat.mod_eq_of_lt ht, q1]
  rw [Nat.div_add_mod' (V / 4294967296 ^ (n - 2)), Nat.mul_comm]
  exact (Nat.div_add_mod _ _).symm
 ·rw [Nat.mod_eq_of_lt hh, q3, q2]
  rw [Nat.div_add_mod' (P / 4294967296 ^ (n - 2) / 4294967296), Nat.div_add_mod' (P / 4294967296 ^ (n - 2)), Nat.mul_comm]
  exact (Nat.div_add_mod _ _).symm
 ·rw [Nat.mod_eq_of_lt ht]
  have : 2147483648 ≤ V / 4294967296 ^ (n - 1) := by
   rw [Nat.le_div_iff_mul_le (pow_pos _)]
   rw [e1] at hV2
   generalize 4294967296 ^ (n - 1) = p at hV2 ⊢
   omega
  omega
theorem ordN_nlt {a b : Nat} (h : ¬ a < b) : (ordN a b < 0) = False := by
 unfold ordN; rw [if_neg h]; split <;> simp
theorem div_step {j X V A q Q : Nat} (hV : 0 < V) (hA : A = X + V * 4294967296 ^ (j + 1) * Q) (hq : q = X / 4294967296 ^ j / V) :
  A = (X % 4294967296 ^ j + 4294967296 ^ j * (X / 4294967296 ^ j % V)) + V * 4294967296 ^ j * (q + 4294967296 * Q) ∧ X % 4294967296 ^ j + 4294967296 ^ j * (X / 4294967296 ^ j % V) < V * 4294967296 ^ j := by
 have hp := pow_pos j
 rw [Nat.pow_succ] at hA
 generalize 4294967296 ^ j = p at *
 have e1 := Nat.div_add_mod X p
 have e2 := Nat.div_add_mod (X / p) V
 have m1 := Nat.mod_lt X hp
 have m2 := Nat.mod_lt (X / p) hV
 rw [← hq] at e2
 generalize X % p = r at *
 generalize hS : X / p % V = S at *
 generalize X / p = Z at *
 generalize 4294967296 = B at hA ⊢
 subst hA e2 e1
 constructor
 ·grind
 ·have : p * (S + 1) ≤ p * V := Nat.mul_le_mul_left _ m2
  rw [Nat.mul_add, Nat.mul_one] at this
  rw [Nat.mul_comm V]; omega
theorem dig_addpow (k X : Nat) : dig k (X + 4294967296 ^ k) = dig k X := by
 rw [← dig_mod, Nat.add_mod_right, dig_mod]
theorem left_0 {k P V g : Nat} (hg : g = P / V) : dig k (P + 4294967296 ^ k - g * V) = dig k (P % V) := by
 have e : g * V + P % V = P := by rw [hg, Nat.mul_comm]; exact Nat.div_add_mod P V
 clear hg
 generalize P % V = r at *
 generalize hp : 4294967296 ^ k = p
 rw [show P + p - g * V = r + p by omega, ← hp, dig_addpow]
theorem left_1 {k P V g : Nat} (hg : g = P / V + 1) (hb : P < g * V) (hk : g * V < 4294967296 ^ k) : dig k (val (dig k (P + 4294967296 ^ k - g * V)) + V) = dig k (P % V) := by
 have e : P / V * V + P % V = P := by rw [Nat.mul_comm]; exact Nat.div_add_mod P V
 have : g * V = P / V * V + V := by rw [hg, Nat.add_mul, Nat.one_mul]
 rw [val_dig, Nat.mod_eq_of_lt (by omega)]
 clear hg
 generalize P / V * V = q at *
 generalize P % V = r at *
 generalize g * V = gv at *
 generalize hp : 4294967296 ^ k = p at *
 rw [show P + p - gv + V = r + p by omega, ← hp, dig_addpow]
theorem mul_lt64' {a b : Nat} (ha : a < 4294967296) (hb : b < 4294967296) : a * b < 18446744073709551616 := by
 have h := mul_lt64 ha hb (c := 0) (d := 0) (by decide) (by decide)
 rwa [Nat.zero_add, Nat.add_zero] at h
theorem sub64_succ {q : Nat} (h : q < 4294967296) : sub64 (q + 1) 1 = q := by rw [sub64_le (by omega) (by omega)]; omega
theorem shl_mod {r : Nat} (h : r < 4294967296) : r * 4294967296 % 18446744073709551616 = r * 4294967296 := by omega
end Go.Num
end
section
set_option linter.unusedVariables false
set_option linter.unusedSimpArgs false
set_option maxRecDepth 100000
namespace Go.Abs
open Go.Num
variable {P : Program} {Γ : Nat → Spec}
def ac_integer_divide (f0 f1 f2 f3 f4 f5 f6 f7 : Nat) : AC := (.seq (.ops false [.m 4 (.c (.one .emp)), .m 5 (.c (.one .emp))])
 (.fg [0, 1] (.seq (.seq (.ops false [.m 19 (.t 0), .m 20 (.t 1), .u 21 (.call f0 [(.t 19), (.t 20)]), .u 22 (.bin .lss (.t 21) (.i 0))])
 (.fg [0, 1, 22] (.cond (.t 22) (.seq (.ops false [.m 23 (.t 0), .u 24 (.call f1 [(.t 23)]), .m 4 (.c (.one .emp)), .m 5 (.t 24)])
 .ret) .skip)))
 (.fg [0, 1] (.seq (.seq (.ops false [.m 25 (.t 1), .u 26 (.len (.t 25)), .u 27 (.bin .eql (.t 26) (.i 1))])
 (.fg [0, 1, 27] (.cond (.t 27) (.seq (.ops false [.m 29 (.t 0), .m 30 (.t 1), .u 31 (.idx 1 (.t 30) (.i 0)), .u 32 (.ld none 1 false (.t 31)), .u 33 (.call f2 [(.t 29), (.t 32)]), .m 28 (.t 33), .u 34 (.ext 0 (.t 28)), .u 35 (.ext 1 (.t 28)), .m 6 (.t 34), .m 7 (.t 35)])
 (.fg [6, 7] (.seq (.ops false [.m 36 (.t 6), .m 37 (.t 7), .u 38 (.row 1 [[.x 1 (.t 37)]]), .u 39 (.call f1 [(.t 38)]), .m 4 (.t 36), .m 5 (.t 39)])
 .ret))) .skip)))
 (.fg [0, 1] (.seq (.ops false [.m 40 (.t 1), .m 41 (.t 1), .u 42 (.len (.t 41)), .u 43 (.bin .sub (.t 42) (.i 1)), .u 44 (.idx 1 (.t 40) (.t 43)), .u 45 (.ld none 1 false (.t 44)), .u 46 (.call f3 [(.t 45)]), .m 8 (.t 46)])
 (.fg [0, 1, 8] (.seq (.ops true [.m 47 (.t 1), .m 48 (.t 8), .u 49 (.callf f4 [(.t 47), (.t 48)]), .m 50 (.t 1), .u 51 (.len (.t 50)), .u 52 (.sl 1 (.t 49) none (some (.t 51))), .m 53 (.t 0), .m 54 (.t 8), .u 55 (.callf f4 [(.t 53), (.t 54)]), .m 9 (.t 52), .m 10 (.t 55)])
 (.fg [8, 9, 10] (.fz [9] (.seq (.ops false [.m 56 (.t 10), .u 57 (.len (.t 56)), .m 58 (.t 9), .u 59 (.len (.t 58)), .u 60 (.bin .sub (.t 57) (.t 59)), .u 61 (.mk 1 [(.lit (.int .u32 0))] (.t 60) (.t 60)), .m 11 (.t 61)])
 (.fg [8, 9, 10, 11] (.seq (.ops true [.m 62 (.t 9), .m 63 (.t 9), .u 64 (.len (.t 63)), .u 65 (.bin .sub (.t 64) (.i 1)), .u 66 (.idx 1 (.t 62) (.t 65)), .u 67 (.ld none 1 false (.t 66)), .u 68 (.conv .u64 (.t 67)), .m 69 (.t 9), .m 70 (.t 9), .u 71 (.len (.t 70)), .u 72 (.bin .sub (.t 71) (.i 2)), .u 73 (.idx 1 (.t 69) (.t 72)), .u 74 (.ld none 1 false (.t 73)), .u 75 (.conv .u64 (.t 74)), .m 12 (.t 68), .m 13 (.t 75)])
 (.fg [8, 9, 10, 11, 12, 13] (.seq (.seq (.ops false [.m 76 (.t 11), .u 77 (.len (.t 76)), .u 78 (.bin .sub (.t 77) (.i 1)), .m 14 (.t 78)])
 (.fg [8, 9, 10, 11, 12, 13, 14] (.block 0 (.loop (.seq (.seq (.ops false [.m 79 (.t 14), .u 80 (.bin .geq (.t 79) (.i 0))])
 (.fg [8, 9, 10, 11, 12, 13, 14, 80] (.cond (.t 80) .skip (.exit 0))))
 (.fg [8, 9, 10, 11, 12, 13, 14] (.seq (.block 1 (.seq (.ops false [.m 83 (.t 10), .m 84 (.t 14), .m 85 (.t 14), .m 86 (.t 9), .u 87 (.len (.t 86)), .u 88 (.bin .add (.t 85) (.t 87)), .u 89 (.bin .add (.t 88) (.i 1)), .u 90 (.sl 1 (.t 83) (some (.t 84)) (some (.t 89))), .m 15 (.t 90)])
 (.fg [8, 9, 10, 11, 12, 13, 14, 15] (.seq (.ops true [.m 91 (.t 15), .m 92 (.t 9), .u 93 (.len (.t 92)), .u 94 (.idx 1 (.t 91) (.t 93)), .u 95 (.ld none 1 false (.t 94)), .u 96 (.conv .u64 (.t 95)), .u 97 (.bin .shl (.t 96) (.c (.one (.lit (.int .u64 32))))), .m 98 (.t 15), .m 99 (.t 9), .u 100 (.len (.t 99)), .u 101 (.bin .sub (.t 100) (.i 1)), .u 102 (.idx 1 (.t 98) (.t 101)), .u 103 (.ld none 1 false (.t 102)), .u 104 (.conv .u64 (.t 103)), .u 105 (.bin .or (.t 97) (.t 104)), .m 16 (.t 105)])
 (.fg [8, 9, 10, 11, 12, 13, 14, 15, 16] (.seq (.ops true [.m 106 (.t 16), .m 107 (.t 12), .u 108 (.bin .quo (.t 106) (.t 107)), .m 109 (.t 16), .m 110 (.t 12), .u 111 (.bin .rem (.t 109) (.t 110)), .m 17 (.t 108), .m 18 (.t 111)])
 (.fg [8, 9, 10, 11, 12, 13, 14, 15, 17, 18] (.seq (.block 2 (.loop (.seq (.seq (.ops false [.m 112 (.t 18), .u 113 (.bin .lss (.t 112) (.c (.one (.lit (.int .u64 4294967296))))), .m 114 (.t 113), .w 115 114 true (.mv (.t 17)), .w 116 114 true (.bin .geq (.t 115) (.c (.one (.lit (.int .u64 4294967296))))), .w 117 114 true (.mv (.t 116)), .w 118 117 false (.mv (.t 17)), .w 119 117 false (.mv (.t 13)), .w 120 117 false (.bin .mul (.t 118) (.t 119)), .w 121 117 false (.mv (.t 18)), .w 122 117 false (.bin .shl (.t 121) (.c (.one (.lit (.int .u64 32))))), .w 123 117 false (.mv (.t 15)), .w 124 117 false (.mv (.t 9)), .w 125 117 false (.len (.t 124)), .w 126 117 false (.bin .sub (.t 125) (.i 2)), .w 127 117 false (.idx 1 (.t 123) (.t 126)), .w 128 117 false (.ld none 1 false (.t 127)), .w 129 117 false (.conv .u64 (.t 128)), .w 130 117 false (.bin .or (.t 122) (.t 129)), .w 131 117 false (.bin .gtr (.t 120) (.t 130)), .w 132 114 true (.pick (.t 117) .tr (.t 131)), .u 133 (.pick (.t 114) (.t 132) .fa)])
 (.fg [8, 9, 10, 11, 12, 13, 14, 15, 17, 18, 133] (.cond (.t 133) .skip (.exit 2))))
 (.fg [8, 9, 10, 11, 12, 13, 14, 15, 17, 18] (.block 3 (.seq (.ops false [.m 134 (.t 17), .u 135 (.bin .sub (.t 134) (.c (.one (.lit (.int .u64 1))))), .m 17 (.t 135)])
 (.fg [8, 9, 10, 11, 12, 13, 14, 15, 17, 18] (.ops false [.m 136 (.t 18), .m 137 (.t 12), .u 138 (.bin .add (.t 136) (.t 137)), .m 18 (.t 138)]))))))))
 (.fg [8, 9, 10, 11, 12, 13, 14, 15, 17] (.seq (.seq (.ops false [.m 139 (.t 15), .m 140 (.t 9), .m 141 (.t 17), .u 142 (.call f5 [(.t 139), (.t 140), (.t 141)])])
 (.fg [8, 9, 10, 11, 12, 13, 14, 15, 17, 142] (.cond (.t 142) (.seq (.ops false [.m 143 (.t 17), .u 144 (.bin .sub (.t 143) (.c (.one (.lit (.int .u64 1))))), .m 17 (.t 144)])
 (.fg [8, 9, 10, 11, 12, 13, 14, 15, 17] (.ops false [.m 145 (.t 15), .m 146 (.t 9), .u 147 (.call f6 [(.t 145), (.t 146)])]))) .skip)))
 (.fg [8, 9, 10, 11, 12, 13, 14, 17] (.ops false [.m 148 (.t 11), .m 149 (.t 14), .m 150 (.t 17), .u 151 (.conv .u32 (.t 150)), .u 152 (.idx 1 (.t 148) (.t 149)), .n (.st none 1 (.t 152) (.t 151))]))))))))))))
 (.fg [8, 9, 10, 11, 12, 13, 14] (.ops false [.m 81 (.t 14), .u 82 (.bin .sub (.t 81) (.i 1)), .m 14 (.t 82)])))))))))
 (.fg [8, 10, 11] (.seq (.ops false [.m 153 (.t 11), .u 154 (.call f1 [(.t 153)]), .m 155 (.t 10), .m 156 (.t 8), .u 157 (.call f7 [(.t 155), (.t 156)]), .m 4 (.t 154), .m 5 (.t 157)])
 .ret))))))))))))))))))
set_option maxHeartbeats 4000000 in
theorem divide_sound (hΓ : Holds P Γ) {f fcmp ftrim fshort flz fup frem fback fdown : Nat} (h1 : Γ fcmp = .dat false compare_G) (h2 : Γ ftrim = .dat false trim_G) (h3 : Γ fshort = .dat false short_G) (h4 : Γ flz = .dat true lz_G)
  (h5 : Γ fup = .fresh 1 up_G) (h6 : Γ frem = .own remove_G) (h7 : Γ fback = .own back_G) (h8 : Γ fdown = .dat false down_G)
  (hc : check P f = some (158, (ac_integer_divide fcmp ftrim fshort flz fup frem fback fdown).strip, [.tmp 4, .tmp 5])) : Sound P f (.dat false divide_G) := by
 refine sound_dat hc divide_good hΓ (fun args K hcl hfi hG => ?_)
 match args, hG with
 | [a, b], hG =>
  obtain ⟨x, rfl, hx, y, rfl, hy, hzx, hzy, hy0, hxl, hyl, hK⟩ := hG
  refine ⟨by simp, ?_⟩
  have hn : 0 < y.length := by cases y with | nil => exact (hy0 rfl).elim | cons => simp
  have ht0 : y.getD (y.length - 1) 0 ≠ 0 := by
   intro e
   refine hzy ?_
   rw [List.getLast?_eq_getElem?]
   rw [List.getD_eq_getElem?_getD, List.getElem?_eq_getElem (by omega)] at e
   rw [List.getElem?_eq_getElem (by omega)]
   simpa using e
  have htB := WL_getD hy (y.length - 1)
  obtain ⟨s, hs32, hs, hs1, hs2⟩ := lz_spec (Nat.pos_of_ne_zero ht0) htB
  have hlast : ((y.length : Int) - 1).toNat = y.length - 1 := by omega
  have hle : (y.length ≤ y.length + 1) = True := eq_true (by omega)
  obtain ⟨hV1, hV2⟩ := shifted hy hn hs1 hs2
  by_cases hlt : val x < val y
  ·simp only [go_sem, ac_integer_divide, h1, h2, h3, h4, h5, h8, ordN_lt hlt]
   refine ⟨hx, hy, hzx, hzy, fun _ => ⟨hx, by omega, ?_⟩, fun h => absurd (show (-1 : Int) < 0 by omega) h⟩
   rw [Nat.div_eq_of_lt hlt, Nat.mod_eq_of_lt hlt, digs_zero] at hK
   exact hK
  have hlen : y.length ≤ x.length := by
   rcases Nat.lt_or_ge x.length y.length with h | h
   ·exact absurd (lt_of_len hx hzy h) hlt
   ·exact h
  obtain ⟨M, hM⟩ : ∃ M, M = x.length + 1 - y.length := ⟨_, rfl⟩
  have hM2 : ((x.length + 1 : Nat) : Int) - (y.length : Int) = (M : Int) := by omega
  simp only [go_sem, ac_integer_divide, h1, h2, h3, h4, h5, h8, hlast, hs, dig_length, dig_take, hle, ordN_nlt hlt, hM2]
  refine ⟨hx, hy, hzx, hzy, fun _ => ⟨fun hone => ?_, fun hone => ?_⟩⟩
  ·have hone : y.length = 1 := by omega
   match y, hone with
   | [t], _ =>
    simp only [List.length_singleton, Nat.sub_self, List.getD_cons_zero] at ht0 htB ⊢
    refine ⟨by omega, by omega, hx, by omega, by omega, by omega, WL_cons.2 ⟨Nat.lt_trans (Nat.mod_lt _ (by omega)) htB, WL_nil⟩, ?_⟩
    simpa [val] using hK
  have hone : 2 ≤ y.length := by omega
  generalize hV : val y * 2 ^ s = V at hV1 hV2
  generalize hA : val x * 2 ^ s = A
  generalize hnn : y.length = n at *
  generalize hLL : x.length + 1 = L at *
  have hV0 : 0 < V := by have := pow_pos n; omega
  have htop : (dig n V).getD (n - 1) 0 = V / 4294967296 ^ (n - 1) % 4294967296 := dig_get _ _ _ (by omega)
  have hnext : (dig n V).getD ((n : Int) - 2).toNat 0 = V / 4294967296 ^ (n - 2) % 4294967296 := by
   rw [show ((n : Int) - 2).toNat = n - 2 by omega]; exact dig_get _ _ _ (by omega)
  have hvv : val (dig n V) = V := by rw [val_dig, Nat.mod_eq_of_lt hV1]
  repeat (first | (refine And.intro (by omega) ?_) | (refine And.intro (by assumption) ?_) | (refine And.intro rfl ?_) | (refine And.intro ⟨rfl, by omega⟩ ?_) | (refine And.intro ⟨rfl, by omega, by omega⟩ ?_) | (intro _))
  obtain ⟨top, htd⟩ : ∃ t, t = V / 4294967296 ^ (n - 1) % 4294967296 := ⟨_, rfl⟩
  obtain ⟨next, hnd⟩ : ∃ t, t = V / 4294967296 ^ (n - 2) % 4294967296 := ⟨_, rfl⟩
  have htB : top < 4294967296 := by rw [htd]; exact Nat.mod_lt _ (by omega)
  have hnB : next < 4294967296 := by rw [hnd]; exact Nat.mod_lt _ (by omega)
  rw [htop, hnext, ← htd, ← hnd, Nat.mod_eq_of_lt (show top < 18446744073709551616 by omega), Nat.mod_eq_of_lt (show next < 18446744073709551616 by omega)]
  have hstart := start_lt hx hs32 (y := y) (by rw [hnn, hV]; exact hV2) (by omega)
  rw [hV, hA, hLL, hnn, ← hM] at hstart
  refine wpA_loop (fun p : Nat × Nat × List Nat => ⟨mkV [(8, .one (.lit (.int .i64 s))), (9, wsA (dig n V)), (10, .one (.own 55 1 1 0 L)), (11, .one (.own 61 1 1 0 M)), (12, .one (.lit (.int .u64 top))), (13, .one (.lit (.int .u64 next))), (14, .one (.lit (.int .i64 ((p.1 : Int) - 1))))],
    mkH [(55, ⟨1, some ⟨(dig L p.2.1).map wc, 1, true⟩⟩), (61, ⟨1, some ⟨(List.replicate p.1 0 ++ p.2.2).map wc, 1, true⟩⟩)]⟩)
   (fun p => p.1 ≤ M ∧ p.2.1 < V * 4294967296 ^ p.1 ∧ A = p.2.1 + V * 4294967296 ^ p.1 * val p.2.2 ∧ WL p.2.2 ∧ p.2.2.length = M - p.1) (fun p => p.1) (M, A, []) ?_ ?_ ?_
  ·exact weak_lit (by simp [okS, okV, okC, okL, okH, okB, okE, mkV_cons, mkV_nil, mkH_cons, mkH_nil, wsA, ws]) ⟨okB_wc rfl, okB_wc (by simp), trivial⟩
  ·exact ⟨Nat.le_refl _, hstart, by simp [val], WL_nil, by simp⟩
  ·rintro ⟨j1, X, qd⟩ ⟨hj, hX, hAX, hqd, hqdl⟩
   simp only at hj hX hAX hqd hqdl
   have hql : (List.replicate j1 0 ++ qd).length = M := by simp; omega
   rcases Nat.eq_zero_or_pos j1 with hj0 | hj0
   ·subst hj0
    simp only [Nat.pow_zero, Nat.mul_one] at hX hAX
    have h0f : ((0 : Int) ≤ ((0 : Nat) : Int) - 1) = False := eq_false (by omega)
    simp only [go_sem, h1, h2, h3, h4, h5, h8, dig_length, hql, h0f]
    refine ⟨hqd, by omega, dig_WL _ _, by omega, by omega, ?_⟩
    have hXL : X < 4294967296 ^ L := Nat.lt_trans hX (Nat.lt_of_lt_of_le hV1 (Nat.pow_le_pow_right (by omega) (by omega)))
    rw [val_dig, Nat.mod_eq_of_lt hXL]
    have hs0 : 0 < 2 ^ s := Nat.pow_pos (by omega)
    have hA2 := (Nat.div_mod_unique hV0 (a := A) (c := X) (d := val qd)).2 ⟨hAX.symm, hX⟩
    have e1 : val x / val y = val qd := by rw [← hA2.1, ← hA, ← hV, Nat.mul_div_mul_right _ _ hs0]
    have e2 : val x % val y = X / 2 ^ s := by
     rw [← hA2.2, ← hA, ← hV, Nat.mul_mod_mul_right, Nat.mul_div_cancel _ hs0]
    rw [e1, e2] at hK
    exact hK
   ·obtain ⟨j, rfl⟩ : ∃ j, j1 = j + 1 := ⟨j1 - 1, by omega⟩
    have hj1 : (((j + 1 : Nat) : Int) - 1) = (j : Int) := by omega
    simp only [hj1]
    generalize hPP : X / 4294967296 ^ j = P'
    have hPV : P' < V * 4294967296 := by
     rw [← hPP, Nat.div_lt_iff_lt_mul (pow_pos _), Nat.mul_assoc, Nat.mul_comm 4294967296, ← Nat.pow_succ]; exact hX
    have hPL : P' < 4294967296 ^ (n + 1) := by
     have := (Nat.mul_lt_mul_right (show 0 < 4294967296 by omega)).2 hV1
     rw [Nat.pow_succ]; exact Nat.lt_trans hPV this
    have st := step_of hone hV1 hV2 hPV
    rw [← htd, ← hnd] at st
    have hread : ∀ k, k ≤ n → (dig L X).getD (j + k) 0 = P' / 4294967296 ^ k % 4294967296 := by
     intro k hk
     rw [dig_get _ _ _ (by omega), Nat.pow_add, ← Nat.div_div_eq_div_mul, hPP]
    have hr0 := hread n (Nat.le_refl _)
    have hr1 := hread (n - 1) (by omega)
    have hr2 := hread (n - 2) (by omega)
    obtain ⟨a, ha⟩ : ∃ a, a = P' / 4294967296 ^ n % 4294967296 := ⟨_, rfl⟩
    obtain ⟨b, hb⟩ : ∃ b, b = P' / 4294967296 ^ (n - 1) % 4294967296 := ⟨_, rfl⟩
    obtain ⟨u2, hu⟩ : ∃ u2, u2 = P' / 4294967296 ^ (n - 2) % 4294967296 := ⟨_, rfl⟩
    rw [← ha] at hr0 st
    rw [← hb] at hr1 st
    rw [← hu] at hr2 st
    have haB : a < 4294967296 := by rw [ha]; exact Nat.mod_lt _ (by omega)
    have hbB : b < 4294967296 := by rw [hb]; exact Nat.mod_lt _ (by omega)
    have huB : u2 < 4294967296 := by rw [hu]; exact Nat.mod_lt _ (by omega)
    have htop0 : 0 < top := by have := st.half; omega
    have hsub : j + n + 1 - j = n + 1 := by omega
    have hsub1 : ((n : Int) - 1).toNat = n - 1 := by omega
    have hsub2 : ((n : Int) - 2).toNat = n - 2 := by omega
    have ea1 : a % 18446744073709551616 = a := by omega
    have ea2 : a * 4294967296 % 18446744073709551616 = a * 4294967296 := by omega
    have eb1 : b % 18446744073709551616 = b := by omega
    have eu1 : u2 % 18446744073709551616 = u2 := by omega
    have eor := or32 a b hbB
    simp only [go_sem, h1, h2, h3, h4, h5, h8, dig_length, hql, hsub, hsub1, hsub2, hr0, hr1, hr2, ea1, ea2, eb1, eor]
    repeat (first | (refine And.intro (by omega) ?_) | (refine And.intro (by assumption) ?_) | (refine And.intro rfl ?_) | (refine And.intro ⟨rfl, by omega⟩ ?_) | (refine And.intro ⟨rfl, by omega, by omega⟩ ?_) | (intro _))
    obtain ⟨q1, q2⟩ := st.first
    generalize hhead : a * 4294967296 + b = head at *
    have hqB := st.quot
    rw [Nat.mod_eq_of_lt (show head / top < 18446744073709551616 by omega)]
    refine wpA_loop (fun p : Nat × Nat => ⟨mkV [(8, .one (.lit (.int .i64 s))), (9, wsA (dig n V)), (10, .one (.own 55 1 1 0 L)), (11, .one (.own 61 1 1 0 M)), (12, .one (.lit (.int .u64 top))), (13, .one (.lit (.int .u64 next))), (14, .one (.lit (.int .i64 j))), (15, .one (.own 55 1 1 j (n + 1))), (17, .one (.lit (.int .u64 p.1))), (18, .one (.lit (.int .u64 p.2)))],
      mkH [(55, ⟨1, some ⟨(dig L X).map wc, 1, true⟩⟩), (61, ⟨1, some ⟨(List.replicate (j + 1) 0 ++ qd).map wc, 1, true⟩⟩)]⟩)
     (fun p => p.1 * top + p.2 = head ∧ P' / V ≤ p.1 ∧ p.1 ≤ 4294967297 ∧ p.2 < 8589934592 ∧ (4294967296 < p.1 → p.2 < 4294967296)) (fun p => p.1) (head / top, head % top) ?_ ?_ ?_
    ·exact weak_lit (by simp [okS, okV, okC, okL, okH, okB, okE, mkV_cons, mkV_nil, mkH_cons, mkH_nil, wsA, ws]) ⟨okB_wc rfl, okB_wc rfl, trivial⟩
    ·have m1 := Nat.mod_lt head htop0
     exact ⟨Nat.div_add_mod' head top, q2, q1, by simp only; omega, fun _ => by simp only; omega⟩
    ·rintro ⟨g, r⟩ ⟨hg, hqg, hgB, hrB, hgr⟩
     simp only at hg hqg hgB hrB hgr
     rcases Nat.lt_or_ge r 4294967296 with hr | hr
     ·have hr' : ((r : Int) < 4294967296) = True := eq_true (by omega)
      rcases Nat.lt_or_ge g 4294967296 with hgl | hgl
      ·have hg' : ((4294967296 : Int) ≤ (g : Int)) = False := eq_false (by omega)
       have hm : g * next < 18446744073709551616 := mul_lt64' hgl hnB
       have em : g * next % 18446744073709551616 = g * next := by rw [Nat.mod_eq_of_lt hm]
       have er := shl_mod hr
       have eo := or32 r u2 huB
       by_cases hcmp : r * 4294967296 + u2 < g * next
       ·simp only [go_sem, h1, h2, h3, h4, h5, h6, h7, h8, dig_length, hql, hsub, hsub1, hsub2, hr0, hr1, hr2, eu1, hr', hg', em, er, eo, hcmp]
        repeat (first | (refine And.intro (by omega) ?_) | (refine And.intro (by assumption) ?_) | (refine And.intro rfl ?_) | (refine And.intro ⟨rfl, by omega⟩ ?_) | (refine And.intro ⟨rfl, by omega, by omega⟩ ?_) | (intro _))
        have hdown : 4294967296 ≤ g ∨ r * 4294967296 + u2 < g * next := .inr hcmp
        have hdn := st.down hg hdown
        have hg0 : 1 ≤ g := Nat.lt_of_le_of_lt (Nat.zero_le _) hdn
        have hqg1 : P' / V ≤ g - 1 := Nat.le_sub_one_of_lt hdn
        have hg1 : sub64 g 1 = g - 1 := sub64_le hg0 (by omega)
        refine ⟨(g - 1, r + top), weak_lit (by simp [okS, okV, okC, okL, okH, okB, okE, mkV_cons, mkV_nil, mkH_cons, mkH_nil, wsA, ws, hg1]; omega) ⟨okB_wc rfl, okB_wc rfl, trivial⟩, ⟨?_, hqg1, by simp only; omega, by simp only; omega, fun _ => by simp only at *; omega⟩, by simp only; omega⟩
        simp only
        obtain ⟨g', rfl⟩ : ∃ g', g = g' + 1 := ⟨g - 1, by omega⟩
        rw [Nat.add_sub_cancel, ← hg, Nat.add_mul]; omega
       ·simp only [go_sem, h1, h2, h3, h4, h5, h6, h7, h8, dig_length, hql, hsub, hsub1, hsub2, hr0, hr1, hr2, eu1, hr', hg', em, er, eo, hcmp]
        repeat (first | (refine And.intro (by omega) ?_) | (refine And.intro (by assumption) ?_) | (refine And.intro rfl ?_) | (refine And.intro ⟨rfl, by omega⟩ ?_) | (refine And.intro ⟨rfl, by omega, by omega⟩ ?_) | (intro _))
        have hstop : 4294967296 ≤ r ∨ (g < 4294967296 ∧ g * next ≤ r * 4294967296 + u2) := .inr ⟨hgl, by omega⟩
        have hgB2 : g ≤ 4294967296 := by omega
        have hle := st.stop hg hgB2 hstop
        obtain ⟨l1, l2⟩ := st.left hqg hle
        have hgV : g * V < 4294967296 ^ (n + 1) := by
         have a1 := Nat.mul_le_mul_right V hgB2
         have a2 := (Nat.mul_lt_mul_left (show 0 < 4294967296 by omega)).2 hV1
         rw [Nat.pow_succ, Nat.mul_comm (4294967296 ^ n)]; exact Nat.lt_of_le_of_lt a1 a2
        have hsplit := dig_split (L := L) (j := j) (n := n) (X := X) (by omega) (by rw [hPP]; exact hPL)
        rw [hPP] at hsplit
        have hvp : val (dig (n + 1) P') = P' := by rw [val_dig, Nat.mod_eq_of_lt hPL]
        have hrl : P' % V < 4294967296 ^ (n + 1) := Nat.lt_of_le_of_lt (Nat.mod_le _ _) hPL
        have hjoin := dig_join (L := L) (j := j) (n := n) (X := X) (by omega) hrl
        have hdiv := div_step (j := j) (q := P' / V) hV0 hAX (by rw [hPP])
        rw [hPP] at hdiv
        simp only [remove_G, onWs_e]
        refine ⟨dig_WL _ _, dig j X, dig (n + 1) P', List.replicate (L - (j + (n + 1))) 0, g, (dig_length _ _).symm, (dig_length _ _).symm, rfl, by simp only [mkH_cons, ↓reduceIte, Nat.reduceEqDiff]; rw [hsplit], dig_WL _ _, hgB2, by rw [dig_length, dig_length]; omega, by rw [hvv, dig_length]; exact hgV, by rw [dig_length]; omega, ?_⟩
        rw [hvp, hvv, dig_length]
        by_cases hb : P' < g * V
        ·have hgq := l1 hb
         simp only [go_sem, h1, h2, h3, h4, h5, h7, h8, hb, hql]
         simp only [back_G, onWs_e]
         refine ⟨dig_WL _ _, dig j X, dig (n + 1) (P' + 4294967296 ^ (n + 1) - g * V), List.replicate (L - (j + (n + 1))) 0, (dig_length _ _).symm, (dig_length _ _).symm, by simp only [mkH_cons, ↓reduceIte, Nat.reduceEqDiff], dig_WL _ _, by rw [dig_length, dig_length]; omega, by rw [dig_length]; omega, ?_⟩
         rw [dig_length, hvv, left_1 hgq hb hgV, hjoin]
         have hg1 : sub64 g 1 = P' / V := by rw [hgq]; exact sub64_succ hqB
         simp only [go_sem, h1, h2, h3, h4, h5, h7, h8, hql, hg1]
         rw [Nat.mod_eq_of_lt hqB]
         have hset := rep_set_low (n := j + 1) qd (P' / V) (by omega)
         rw [Nat.add_sub_cancel] at hset
         rw [hset]
         repeat (first | (refine And.intro (by omega) ?_) | (refine And.intro (by assumption) ?_) | (refine And.intro rfl ?_) | (refine And.intro ⟨rfl, by omega⟩ ?_) | (refine And.intro ⟨rfl, by omega, by omega⟩ ?_) | (intro _))
         exact ⟨(j, X % 4294967296 ^ j + 4294967296 ^ j * (P' % V), P' / V :: qd), weak_lit (by simp [okS, okV, okC, okL, okH, okB, okE, mkV_cons, mkV_nil, mkH_cons, mkH_nil, wsA, ws]) ⟨okB_wc rfl, okB_wc rfl, trivial⟩, ⟨by simp only; omega, hdiv.2, hdiv.1, WL_cons.2 ⟨hqB, hqd⟩, by simp only [List.length_cons]; omega⟩, by simp only; omega⟩
        ·have hgq := l2 hb
         rw [left_0 hgq, hjoin]
         simp only [go_sem, h1, h2, h3, h4, h5, h7, h8, hb, hql]
         rw [hgq, Nat.mod_eq_of_lt hqB]
         have hset := rep_set_low (n := j + 1) qd (P' / V) (by omega)
         rw [Nat.add_sub_cancel] at hset
         rw [hset]
         repeat (first | (refine And.intro (by omega) ?_) | (refine And.intro (by assumption) ?_) | (refine And.intro rfl ?_) | (refine And.intro ⟨rfl, by omega⟩ ?_) | (refine And.intro ⟨rfl, by omega, by omega⟩ ?_) | (intro _))
         exact ⟨(j, X % 4294967296 ^ j + 4294967296 ^ j * (P' % V), P' / V :: qd), weak_lit (by simp [okS, okV, okC, okL, okH, okB, okE, mkV_cons, mkV_nil, mkH_cons, mkH_nil, wsA, ws]) ⟨okB_wc rfl, okB_wc rfl, trivial⟩, ⟨by simp only; omega, hdiv.2, hdiv.1, WL_cons.2 ⟨hqB, hqd⟩, by simp only [List.length_cons]; omega⟩, by simp only; omega⟩
      ·have hg' : ((4294967296 : Int) ≤ (g : Int)) = True := eq_true (by omega)
       simp only [go_sem, h1, h2, h3, h4, h5, h6, h7, h8, dig_length, hql, hsub, hsub1, hsub2, hr0, hr1, hr2, eu1, hr', hg']
       repeat (first | (refine And.intro (by omega) ?_) | (refine And.intro (by assumption) ?_) | (refine And.intro rfl ?_) | (refine And.intro ⟨rfl, by omega⟩ ?_) | (refine And.intro ⟨rfl, by omega, by omega⟩ ?_) | (intro _))
       have hdown : 4294967296 ≤ g ∨ r * 4294967296 + u2 < g * next := .inl hgl
       have hdn := st.down hg hdown
       have hg0 : 1 ≤ g := Nat.lt_of_le_of_lt (Nat.zero_le _) hdn
       have hqg1 : P' / V ≤ g - 1 := Nat.le_sub_one_of_lt hdn
       have hg1 : sub64 g 1 = g - 1 := sub64_le hg0 (by omega)
       refine ⟨(g - 1, r + top), weak_lit (by simp [okS, okV, okC, okL, okH, okB, okE, mkV_cons, mkV_nil, mkH_cons, mkH_nil, wsA, ws, hg1]; omega) ⟨okB_wc rfl, okB_wc rfl, trivial⟩, ⟨?_, hqg1, by simp only; omega, by simp only; omega, fun _ => by simp only at *; omega⟩, by simp only; omega⟩
       simp only
       obtain ⟨g', rfl⟩ : ∃ g', g = g' + 1 := ⟨g - 1, by omega⟩
       rw [Nat.add_sub_cancel, ← hg, Nat.add_mul]; omega
     ·have hr' : ((r : Int) < 4294967296) = False := eq_false (by omega)
      simp only [go_sem, h1, h2, h3, h4, h5, h6, h7, h8, dig_length, hql, hsub, hsub1, hsub2, hr0, hr1, hr2, eu1, hr']
      repeat (first | (refine And.intro (by omega) ?_) | (refine And.intro (by assumption) ?_) | (refine And.intro rfl ?_) | (refine And.intro ⟨rfl, by omega⟩ ?_) | (refine And.intro ⟨rfl, by omega, by omega⟩ ?_) | (intro _))
      have hstop : 4294967296 ≤ r ∨ (g < 4294967296 ∧ g * next ≤ r * 4294967296 + u2) := .inl hr
      have hgB2 : g ≤ 4294967296 := by omega
      have hle := st.stop hg hgB2 hstop
      obtain ⟨l1, l2⟩ := st.left hqg hle
      have hgV : g * V < 4294967296 ^ (n + 1) := by
       have a1 := Nat.mul_le_mul_right V hgB2
       have a2 := (Nat.mul_lt_mul_left (show 0 < 4294967296 by omega)).2 hV1
       rw [Nat.pow_succ, Nat.mul_comm (4294967296 ^ n)]; exact Nat.lt_of_le_of_lt a1 a2
      have hsplit := dig_split (L := L) (j := j) (n := n) (X := X) (by omega) (by rw [hPP]; exact hPL)
      rw [hPP] at hsplit
      have hvp : val (dig (n + 1) P') = P' := by rw [val_dig, Nat.mod_eq_of_lt hPL]
      have hrl : P' % V < 4294967296 ^ (n + 1) := Nat.lt_of_le_of_lt (Nat.mod_le _ _) hPL
      have hjoin := dig_join (L := L) (j := j) (n := n) (X := X) (by omega) hrl
      have hdiv := div_step (j := j) (q := P' / V) hV0 hAX (by rw [hPP])
      rw [hPP] at hdiv
      simp only [remove_G, onWs_e]
      refine ⟨dig_WL _ _, dig j X, dig (n + 1) P', List.replicate (L - (j + (n + 1))) 0, g, (dig_length _ _).symm, (dig_length _ _).symm, rfl, by simp only [mkH_cons, ↓reduceIte, Nat.reduceEqDiff]; rw [hsplit], dig_WL _ _, hgB2, by rw [dig_length, dig_length]; omega, by rw [hvv, dig_length]; exact hgV, by rw [dig_length]; omega, ?_⟩
      rw [hvp, hvv, dig_length]
      by_cases hb : P' < g * V
      ·have hgq := l1 hb
       simp only [go_sem, h1, h2, h3, h4, h5, h7, h8, hb, hql]
       simp only [back_G, onWs_e]
       refine ⟨dig_WL _ _, dig j X, dig (n + 1) (P' + 4294967296 ^ (n + 1) - g * V), List.replicate (L - (j + (n + 1))) 0, (dig_length _ _).symm, (dig_length _ _).symm, by simp only [mkH_cons, ↓reduceIte, Nat.reduceEqDiff], dig_WL _ _, by rw [dig_length, dig_length]; omega, by rw [dig_length]; omega, ?_⟩
       rw [dig_length, hvv, left_1 hgq hb hgV, hjoin]
       have hg1 : sub64 g 1 = P' / V := by rw [hgq]; exact sub64_succ hqB
       simp only [go_sem, h1, h2, h3, h4, h5, h7, h8, hql, hg1]
       rw [Nat.mod_eq_of_lt hqB]
       have hset := rep_set_low (n := j + 1) qd (P' / V) (by omega)
       rw [Nat.add_sub_cancel] at hset
       rw [hset]
       repeat (first | (refine And.intro (by omega) ?_) | (refine And.intro (by assumption) ?_) | (refine And.intro rfl ?_) | (refine And.intro ⟨rfl, by omega⟩ ?_) | (refine And.intro ⟨rfl, by omega, by omega⟩ ?_) | (intro _))
       exact ⟨(j, X % 4294967296 ^ j + 4294967296 ^ j * (P' % V), P' / V :: qd), weak_lit (by simp [okS, okV, okC, okL, okH, okB, okE, mkV_cons, mkV_nil, mkH_cons, mkH_nil, wsA, ws]) ⟨okB_wc rfl, okB_wc rfl, trivial⟩, ⟨by simp only; omega, hdiv.2, hdiv.1, WL_cons.2 ⟨hqB, hqd⟩, by simp only [List.length_cons]; omega⟩, by simp only; omega⟩
      ·have hgq := l2 hb
       rw [left_0 hgq, hjoin]
       simp only [go_sem, h1, h2, h3, h4, h5, h7, h8, hb, hql]
       rw [hgq, Nat.mod_eq_of_lt hqB]
       have hset := rep_set_low (n := j + 1) qd (P' / V) (by omega)
       rw [Nat.add_sub_cancel] at hset
       rw [hset]
       repeat (first | (refine And.intro (by omega) ?_) | (refine And.intro (by assumption) ?_) | (refine And.intro rfl ?_) | (refine And.intro ⟨rfl, by omega⟩ ?_) | (refine And.intro ⟨rfl, by omega, by omega⟩ ?_) | (intro _))
       exact ⟨(j, X % 4294967296 ^ j + 4294967296 ^ j * (P' % V), P' / V :: qd), weak_lit (by simp [okS, okV, okC, okL, okH, okB, okE, mkV_cons, mkV_nil, mkH_cons, mkH_nil, wsA, ws]) ⟨okB_wc rfl, okB_wc rfl, trivial⟩, ⟨by simp only; omega, hdiv.2, hdiv.1, WL_cons.2 ⟨hqB, hqd⟩, by simp only [List.length_cons]; omega⟩, by simp only; omega⟩
end Go.Abs
end
section
set_option linter.unusedVariables false
set_option linter.unusedSimpArgs false
set_option maxRecDepth 100000
namespace Go.Abs
open Go.Num
variable {P : Program} {Γ : Nat → Spec}
def ac_integer_Valid : AC := (.seq (.ops false [.u 1 (.box 2 (.t 0)), .m 2 .fa])
 (.fg [1] (.seq (.seq (.ops false [.u 3 (.fa 1 (.t 1)), .u 4 (.ld none 1 false (.t 3)), .u 5 (.len (.t 4)), .u 6 (.bin .eql (.t 5) (.i 0))])
 (.fg [1, 6] (.cond (.t 6) (.seq (.ops false [.u 7 (.fa 0 (.t 1)), .u 8 (.ld none 1 false (.t 7)), .u 9 (.un .not (.t 8)), .m 2 (.t 9)])
 .ret) .skip)))
 (.fg [1] (.seq (.ops false [.u 10 (.fa 1 (.t 1)), .u 11 (.ld none 1 false (.t 10)), .u 12 (.fa 1 (.t 1)), .u 13 (.ld none 1 false (.t 12)), .u 14 (.len (.t 13)), .u 15 (.bin .sub (.t 14) (.i 1)), .u 16 (.idx 1 (.t 11) (.t 15)), .u 17 (.ld none 1 false (.t 16)), .u 18 (.bin .neq (.t 17) (.c (.one (.lit (.int .u32 0))))), .m 2 (.t 18)])
 .ret)))))
def ac_integer_mag (f0 : Nat) : AC := (.seq (.ops false [.u 1 (.box 2 (.t 0)), .m 2 (.c (.one .emp))])
 (.fg [1] (.seq (.seq (.ops false [.u 3 (.ld none 2 true (.t 1)), .u 4 (.call f0 [(.t 3)]), .u 5 (.un .not (.t 4))])
 (.fg [1, 5] (.cond (.t 5) (.seq (.ops false [.m 2 (.c (.one .emp))])
 .ret) .skip)))
 (.fg [1] (.seq (.ops false [.u 6 (.fa 1 (.t 1)), .u 7 (.ld none 1 false (.t 6)), .m 2 (.t 7)])
 .ret)))))
def ac_integer_neg (f0 : Nat) : AC := (.seq (.ops false [.u 1 (.box 2 (.t 0)), .m 2 .fa])
 (.fg [1] (.seq (.ops false [.u 3 (.ld none 2 true (.t 1)), .u 4 (.call f0 [(.t 3)]), .m 5 (.t 4), .w 6 5 true (.fa 0 (.t 1)), .w 7 5 true (.ld none 1 false (.t 6)), .u 8 (.pick (.t 5) (.t 7) .fa), .m 2 (.t 8)])
 .ret)))
def ac_integer_whole (f0 : Nat) : AC := (.seq (.ops false [.u 4 (.alloc [(.lit (.bool false)), .emp])])
 (.fg [0, 1, 4] (.seq (.ops false [.m 5 (.t 1), .u 6 (.call f0 [(.t 5)]), .m 1 (.t 6)])
 (.fg [0, 1, 4] (.seq (.ops false [.m 7 (.t 0), .m 8 (.t 7), .w 9 8 true (.mv (.t 1)), .w 10 8 true (.len (.t 9)), .w 11 8 true (.bin .gtr (.t 10) (.i 0)), .u 12 (.pick (.t 8) (.t 11) .fa), .m 13 (.t 1), .u 14 (.build [.x 1 (.t 12), .x 1 (.t 13)]), .n (.st none 2 (.t 4) (.t 14))])
 .ret)))))
def ac_integer_Of (f0 : Nat) : AC := (.seq (.ops false [.u 2 (.alloc [(.lit (.bool false)), .emp])])
 (.fg [0, 2] (.seq (.ops false [.m 4 (.t 0), .u 5 (.conv .u64 (.t 4)), .m 3 (.t 5)])
 (.fg [0, 2, 3] (.seq (.seq (.ops false [.m 6 (.t 0), .u 7 (.bin .lss (.t 6) (.i 0))])
 (.fg [0, 2, 3, 7] (.cond (.t 7) (.ops false [.m 8 (.t 3), .u 9 (.un .neg (.t 8)), .m 3 (.t 9)]) .skip)))
 (.fg [0, 2, 3] (.seq (.ops false [.m 10 (.t 0), .u 11 (.bin .lss (.t 10) (.i 0)), .m 12 (.t 3), .u 13 (.conv .u32 (.t 12)), .m 14 (.t 3), .u 15 (.bin .shr (.t 14) (.c (.one (.lit (.int .u64 32))))), .u 16 (.conv .u32 (.t 15)), .u 17 (.row 1 [[.x 1 (.t 13)], [.x 1 (.t 16)]]), .u 18 (.call f0 [(.t 11), (.t 17)]), .n (.st none 2 (.t 2) (.t 18))])
 .ret)))))))
def ac_integer_Sign (f0 : Nat) : AC := (.seq (.ops false [.u 1 (.box 2 (.t 0)), .m 2 (.i 0)])
 (.fg [1] (.seq (.block 0 (.seq (.ops false [.u 4 (.ld none 2 true (.t 1)), .u 5 (.call f0 [(.t 4)]), .u 6 (.len (.t 5)), .u 7 (.bin .eql (.t 6) (.i 0)), .m 3 (.t 7)])
 (.fg [1, 3] (.cond (.t 3) (.seq (.ops false [.m 2 (.i 0)])
 .ret) (.seq (.ops false [.u 9 (.fa 0 (.t 1)), .u 10 (.ld none 1 false (.t 9)), .m 8 (.t 10)])
 (.fg [8] (.cond (.t 8) (.seq (.ops false [.m 2 (.i (-1))])
 .ret) .skip)))))))
 (.fg [] (.seq (.ops false [.m 2 (.i 1)])
 .ret)))))
def ac_integer_Cmp (f0 f1 f2 f3 : Nat) : AC := (.seq (.ops false [.u 2 (.box 2 (.t 0)), .u 3 (.box 2 (.t 1)), .m 4 (.i 0)])
 (.fg [2, 3] (.seq (.seq (.ops true [.u 8 (.ld none 2 true (.t 2)), .u 9 (.call f0 [(.t 8)]), .u 10 (.ld none 2 true (.t 3)), .u 11 (.call f0 [(.t 10)]), .m 5 (.t 9), .m 6 (.t 11)])
 (.fg [2, 3, 5, 6] (.seq (.ops false [.m 12 (.t 5), .m 13 (.t 6), .u 14 (.bin .neq (.t 12) (.t 13))])
 (.fg [2, 3, 5, 6, 14] (.cond (.t 14) (.seq (.seq (.ops false [.m 15 (.t 5), .m 16 (.t 6), .u 17 (.bin .lss (.t 15) (.t 16))])
 (.fg [17] (.cond (.t 17) (.seq (.ops false [.m 4 (.i (-1))])
 .ret) .skip)))
 (.fg [] (.seq (.ops false [.m 4 (.i 1)])
 .ret))) .skip)))))
 (.fg [2, 3] (.seq (.ops true [.u 18 (.ld none 2 true (.t 2)), .u 19 (.call f1 [(.t 18)]), .u 20 (.ld none 2 true (.t 3)), .u 21 (.call f1 [(.t 20)]), .u 22 (.call f2 [(.t 19), (.t 21)]), .m 7 (.t 22)])
 (.fg [2, 7] (.seq (.seq (.ops false [.u 23 (.ld none 2 true (.t 2)), .u 24 (.call f3 [(.t 23)])])
 (.fg [7, 24] (.cond (.t 24) (.seq (.ops false [.m 25 (.t 7), .u 26 (.un .neg (.t 25)), .m 4 (.t 26)])
 .ret) .skip)))
 (.fg [7] (.seq (.ops false [.m 27 (.t 7), .m 4 (.t 27)])
 .ret)))))))))
def ac_integer_Neg (f0 f1 f2 : Nat) : AC := (.seq (.ops false [.u 1 (.box 2 (.t 0)), .u 2 (.alloc [(.lit (.bool false)), .emp])])
 (.fg [1, 2] (.seq (.ops true [.u 3 (.ld none 2 true (.t 1)), .u 4 (.call f0 [(.t 3)]), .u 5 (.un .not (.t 4)), .u 6 (.ld none 2 true (.t 1)), .u 7 (.call f1 [(.t 6)]), .u 8 (.call f2 [(.t 5), (.t 7)]), .n (.st none 2 (.t 2) (.t 8))])
 .ret)))
def ac_integer_Add (f0 f1 f2 f3 f4 f5 : Nat) : AC := (.seq (.ops false [.u 2 (.box 2 (.t 0)), .u 3 (.box 2 (.t 1)), .u 4 (.alloc [(.lit (.bool false)), .emp])])
 (.fg [2, 3, 4] (.seq (.ops true [.u 7 (.ld none 2 true (.t 2)), .u 8 (.call f0 [(.t 7)]), .u 9 (.ld none 2 true (.t 3)), .u 10 (.call f0 [(.t 9)]), .m 5 (.t 8), .m 6 (.t 10)])
 (.fg [2, 3, 4, 5, 6] (.seq (.block 0 (.seq (.ops true [.u 12 (.ld none 2 true (.t 2)), .u 13 (.call f1 [(.t 12)]), .u 14 (.ld none 2 true (.t 3)), .u 15 (.call f1 [(.t 14)]), .u 16 (.binb .eql (.t 13) (.t 15)), .m 11 (.t 16)])
 (.fg [2, 3, 4, 5, 6, 11] (.cond (.t 11) (.seq (.ops false [.u 17 (.ld none 2 true (.t 2)), .u 18 (.call f1 [(.t 17)]), .m 19 (.t 5), .m 20 (.t 6), .u 21 (.call f2 [(.t 19), (.t 20)]), .u 22 (.call f3 [(.t 18), (.t 21)]), .n (.st none 2 (.t 4) (.t 22))])
 .ret) (.seq (.ops false [.m 24 (.t 5), .m 25 (.t 6), .u 26 (.call f4 [(.t 24), (.t 25)]), .u 27 (.bin .geq (.t 26) (.i 0)), .m 23 (.t 27)])
 (.fg [2, 3, 4, 5, 6, 23] (.cond (.t 23) (.seq (.ops false [.u 28 (.ld none 2 true (.t 2)), .u 29 (.call f1 [(.t 28)]), .m 30 (.t 5), .m 31 (.t 6), .u 32 (.call f5 [(.t 30), (.t 31)]), .u 33 (.call f3 [(.t 29), (.t 32)]), .n (.st none 2 (.t 4) (.t 33))])
 .ret) .skip)))))))
 (.fg [3, 4, 5, 6] (.seq (.ops false [.u 34 (.ld none 2 true (.t 3)), .u 35 (.call f1 [(.t 34)]), .m 36 (.t 6), .m 37 (.t 5), .u 38 (.call f5 [(.t 36), (.t 37)]), .u 39 (.call f3 [(.t 35), (.t 38)]), .n (.st none 2 (.t 4) (.t 39))])
 .ret)))))))
def ac_integer_Mul (f0 f1 f2 f3 : Nat) : AC := (.seq (.ops false [.u 2 (.box 2 (.t 0)), .u 3 (.box 2 (.t 1)), .u 4 (.alloc [(.lit (.bool false)), .emp])])
 (.fg [2, 3, 4] (.seq (.ops true [.u 5 (.ld none 2 true (.t 2)), .u 6 (.call f0 [(.t 5)]), .u 7 (.ld none 2 true (.t 3)), .u 8 (.call f0 [(.t 7)]), .u 9 (.binb .neq (.t 6) (.t 8)), .u 10 (.ld none 2 true (.t 2)), .u 11 (.call f1 [(.t 10)]), .u 12 (.ld none 2 true (.t 3)), .u 13 (.call f1 [(.t 12)]), .u 14 (.call f2 [(.t 11), (.t 13)]), .u 15 (.call f3 [(.t 9), (.t 14)]), .n (.st none 2 (.t 4) (.t 15))])
 .ret)))
def ac_integer_Gcd (f0 f1 f2 : Nat) : AC := (.seq (.ops false [.u 2 (.box 2 (.t 0)), .u 3 (.box 2 (.t 1)), .u 4 (.alloc [(.lit (.bool false)), .emp])])
 (.fg [2, 3, 4] (.seq (.ops true [.u 9 (.ld none 2 true (.t 2)), .u 10 (.call f0 [(.t 9)]), .u 11 (.ld none 2 true (.t 3)), .u 12 (.call f0 [(.t 11)]), .m 5 (.t 10), .m 6 (.t 12)])
 (.fg [4, 5, 6] (.seq (.block 0 (.loop (.seq (.seq (.ops false [.m 13 (.t 6), .u 14 (.len (.t 13)), .u 15 (.bin .gtr (.t 14) (.i 0))])
 (.fg [4, 5, 6, 15] (.cond (.t 15) .skip (.exit 0))))
 (.fg [4, 5, 6] (.block 1 (.seq (.ops false [.m 17 (.t 5), .m 18 (.t 6), .u 19 (.call f1 [(.t 17), (.t 18)]), .m 16 (.t 19), .u 20 (.ext 0 (.t 16)), .u 21 (.ext 1 (.t 16)), .m 7 (.t 20), .m 8 (.t 21)])
 (.fg [4, 6, 8] (.ops false [.m 22 (.t 6), .m 23 (.t 8), .m 5 (.t 22), .m 6 (.t 23)]))))))))
 (.fg [4, 5] (.seq (.ops false [.m 24 (.t 5), .u 25 (.call f2 [.fa, (.t 24)]), .n (.st none 2 (.t 4) (.t 25))])
 .ret)))))))
def ac_integer_Div (f0 f1 f2 f3 f4 f5 tE : Nat) : AC := (.seq (.ops false [.u 2 (.box 2 (.t 0)), .u 3 (.box 2 (.t 1)), .u 4 (.alloc [(.lit (.bool false)), .emp]), .u 5 (.alloc [(.lit (.bool false)), .emp]), .m 6 (.c (.one (.lit .nilIface)))])
 (.fg [2, 3, 4, 5] (.seq (.ops false [.u 10 (.ld none 2 true (.t 3)), .u 11 (.call f0 [(.t 10)]), .m 7 (.t 11)])
 (.fg [2, 3, 4, 5, 7] (.seq (.seq (.ops false [.m 12 (.t 7), .u 13 (.len (.t 12)), .u 14 (.bin .eql (.t 13) (.i 0))])
 (.fg [2, 3, 4, 5, 7, 14] (.cond (.t 14) (.seq (.ops false [.u 15 (.build [.z [(.lit (.bool false)), .emp]]), .u 16 (.build [.z [(.lit (.bool false)), .emp]]), .u 17 (.iface tE (.i 8)), .n (.st none 2 (.t 4) (.t 15)), .n (.st none 2 (.t 5) (.t 16)), .m 6 (.t 17)])
 .ret) .skip)))
 (.fg [2, 3, 4, 5, 7] (.seq (.ops false [.u 19 (.ld none 2 true (.t 2)), .u 20 (.call f0 [(.t 19)]), .m 21 (.t 7), .u 22 (.call f1 [(.t 20), (.t 21)]), .m 18 (.t 22), .u 23 (.ext 0 (.t 18)), .u 24 (.ext 1 (.t 18)), .m 8 (.t 23), .m 9 (.t 24)])
 (.fg [2, 3, 4, 5, 7, 8, 9] (.seq (.seq (.ops false [.u 25 (.ld none 2 true (.t 2)), .u 26 (.call f2 [(.t 25)]), .m 27 (.t 26), .w 28 27 true (.mv (.t 9)), .w 29 27 true (.len (.t 28)), .w 30 27 true (.bin .gtr (.t 29) (.i 0)), .u 31 (.pick (.t 27) (.t 30) .fa)])
 (.fg [2, 3, 4, 5, 7, 8, 9, 31] (.cond (.t 31) (.ops false [.m 32 (.t 8), .u 33 (.row 1 [[.x 1 (.c (.one (.lit (.int .u32 1))))]]), .u 34 (.call f3 [(.t 32), (.t 33)]), .m 35 (.t 7), .m 36 (.t 9), .u 37 (.call f4 [(.t 35), (.t 36)]), .m 8 (.t 34), .m 9 (.t 37)]) .skip)))
 (.fg [2, 3, 4, 5, 8, 9] (.seq (.ops true [.u 38 (.ld none 2 true (.t 2)), .u 39 (.call f2 [(.t 38)]), .u 40 (.ld none 2 true (.t 3)), .u 41 (.call f2 [(.t 40)]), .u 42 (.binb .neq (.t 39) (.t 41)), .m 43 (.t 8), .u 44 (.call f5 [(.t 42), (.t 43)]), .m 45 (.t 9), .u 46 (.call f5 [.fa, (.t 45)]), .n (.st none 2 (.t 4) (.t 44)), .n (.st none 2 (.t 5) (.t 46)), .m 6 (.c (.one (.lit .nilIface)))])
 .ret)))))))))))
theorem zvalid_sound (hΓ : Holds P Γ) {f : Nat} (hc : check P f = some (19, ac_integer_Valid.strip, [.tmp 2])) : Sound P f (.dat true zvalid_G) := by
 refine sound_dat hc zvalid_good hΓ (fun args K hcl hfi hG => ?_)
 match args, hG with
 | [a], hG =>
  obtain ⟨w, rfl, hw, hK⟩ := hG
  refine ⟨by simp, ?_⟩
  simp only [go_sem, ac_integer_Valid, zb_eq, zm_eq]
  unfold vldW at hK
  intro hlen
  refine ⟨fun h => ?_, fun h _ => ?_⟩
  ·rw [if_pos (List.length_eq_zero_iff.1 h)] at hK; exact hK
  ·have hn : w.2 ≠ [] := fun e => h (by rw [e]; rfl)
   rw [if_neg hn] at hK
   refine ⟨⟨by omega, by omega⟩, by omega, by omega, ?_⟩
   have e1 : ((w.2.length : Int) - 1).toNat = w.2.length - 1 := by omega
   rw [e1]
   have e2 : (!decide (w.2.getD (w.2.length - 1) 0 = 0)) = decide (NZ w.2) := by
    rw [← decide_not, decide_eq_decide]
    unfold NZ
    rw [List.getLast?_eq_getElem?, List.getElem?_eq_getElem (by omega), List.getD_eq_getElem?_getD, List.getElem?_eq_getElem (by omega)]
    simp
   rw [e2]; exact hK
theorem zmag_sound (hΓ : Holds P Γ) {f fv : Nat} (hv : Γ fv = .dat true zvalid_G) (hc : check P f = some (8, (ac_integer_mag fv).strip, [.tmp 2])) : Sound P f (.dat false zmag_G) := by
 refine sound_dat hc zmag_good hΓ (fun args K hcl hfi hG => ?_)
 match args, hG with
 | [a], hG =>
  obtain ⟨w, rfl, hw, hK⟩ := hG
  refine ⟨by simp, ?_⟩
  simp only [go_sem, ac_integer_mag, hv, hw]
  rw [← mag_eq hw] at hK
  refine ⟨fun h => ?_, fun h => ?_⟩
  ·rw [if_pos h] at hK; exact hK
  ·rw [if_neg (by rw [h]; simp)] at hK; exact hK
theorem znegp_sound (hΓ : Holds P Γ) {f fv : Nat} (hv : Γ fv = .dat true zvalid_G) (hc : check P f = some (9, (ac_integer_neg fv).strip, [.tmp 2])) : Sound P f (.dat true znegp_G) := by
 refine sound_dat hc znegp_good hΓ (fun args K hcl hfi hG => ?_)
 match args, hG with
 | [a], hG =>
  obtain ⟨w, rfl, hw, hK⟩ := hG
  refine ⟨by simp, ?_⟩
  simp only [go_sem, ac_integer_neg, hv, hw]
  rw [← neg_eq hw] at hK
  refine ⟨fun h => ?_, fun h => ?_⟩
  ·rw [h, Bool.true_and] at hK; exact hK
  ·rw [h, Bool.false_and] at hK; exact hK
theorem whole_sound (hΓ : Holds P Γ) {f ft : Nat} (ht : Γ ft = .dat false trim_G) (hc : check P f = some (15, (ac_integer_whole ft).strip, [.cell 4 2 true])) : Sound P f (.dat false whole_G) := by
 refine sound_dat hc whole_good hΓ (fun args K hcl hfi hG => ?_)
 match args, hG with
 | [a, m], hG =>
  obtain ⟨b, rfl, hG⟩ := asBool_inv hG
  obtain ⟨l, rfl, hl, hlen, hK⟩ := hG
  refine ⟨by simp, ?_⟩
  simp only [go_sem, ac_integer_whole, ht]
  rw [← can_sg] at hK
  refine ⟨hl, hlen, fun h _ => ?_, fun h => ?_⟩
  ·rw [h, Bool.true_and] at hK; exact hK
  ·rw [h, Bool.false_and] at hK; exact hK
theorem zof_sound (hΓ : Holds P Γ) {f fw : Nat} (hw : Γ fw = .dat false whole_G) (hc : check P f = some (19, (ac_integer_Of fw).strip, [.cell 2 2 true])) : Sound P f (.dat false zof_G) := by
 refine sound_dat hc zof_good hΓ (fun args K hcl hfi hG => ?_)
 match args, hG with
 | [a], hG =>
  obtain ⟨k, n, rfl, rfl, hn1, hn2, hK⟩ := asInt_inv hG
  refine ⟨by simp, ?_⟩
  simp only [go_sem, ac_integer_Of, hw]
  have e0 : (18446744073709551616 : Int) = ((18446744073709551616 : Nat) : Int) := rfl
  have key : ∀ (x : Nat) (b : Bool), x < 18446744073709551616 → sg b x = n →
    onWs (fun l => l.length ≤ 68719476736 ∧ K (AV.agg [zb (zcan (sg b (val l))), zm (zcan (sg b (val l)))]))
     (AV.one (C.slice [[C.lit (Value.int IntKind.u32 ((x : Int) % 4294967296))], [C.lit (Value.int IntKind.u32 ((x : Int) / 2 ^ 32 % 4294967296))]])) := by
   intro x b hx hs
   have e1 : ((x : Int) % 4294967296) = ((x % 4294967296 : Nat) : Int) := by omega
   have e2 : ((x : Int) / 2 ^ 32 % 4294967296) = ((x / 4294967296 : Nat) : Int) := by omega
   rw [e1, e2, onWs_2]
   refine ⟨?_, by simp, ?_⟩
   ·rw [WL_cons, WL_cons]; exact ⟨by omega, by omega, WL_nil⟩
   ·have : val [x % 4294967296, x / 4294967296] = x := by
     simp only [val_cons, val_nil]; omega
    rw [this, hs]; exact hK
  refine ⟨fun h => ⟨⟨by omega, by omega, by decide⟩, ?_⟩, fun h => ⟨⟨by omega, by omega, by decide⟩, ?_⟩⟩
  ·have e : (-(n % 18446744073709551616) % 18446744073709551616 : Int) = ((-n).toNat : Int) := by omega
   rw [e]
   refine key _ _ (by omega) ?_
   rw [decide_eq_true h]; unfold sg; rw [if_pos rfl]; omega
  ·have e : (n % 18446744073709551616 : Int) = (n.toNat : Int) := by omega
   rw [e]
   refine key _ _ (by omega) ?_
   rw [decide_eq_false h]; unfold sg; rw [if_neg (by simp)]; omega
theorem zsign_sound (hΓ : Holds P Γ) {f fm : Nat} (hm : Γ fm = .dat false zmag_G) (hc : check P f = some (11, (ac_integer_Sign fm).strip, [.tmp 2])) : Sound P f (.dat true zsign_G) := by
 refine sound_dat hc zsign_good hΓ (fun args K hcl hfi hG => ?_)
 match args, hG with
 | [a], hG =>
  obtain ⟨w, rfl, hw, hK⟩ := hG
  refine ⟨by simp, ?_⟩
  simp only [go_sem, ac_integer_Sign, hm, hw, zb_eq, zm_eq]
  intro _
  show ((digs (zv w).natAbs).length = 0 → _) ∧ (¬(digs (zv w).natAbs).length = 0 → _)
  have h0 : (digs (zv w).natAbs).length = 0 ↔ zv w = 0 := zs_eq_zero
  rw [h0]
  refine ⟨fun h => ?_, fun h => ⟨fun hb => ?_, fun hb => ?_⟩⟩
  ·rw [h] at hK; exact hK
  ·have : zv w < 0 := by
    have := neg_eq hw; rw [hb, Bool.and_true] at this
    have hv : vldW w = true := by
     cases hv : vldW w with
     | true => rfl
     | false => exact absurd (zv_nvld hv) h
    rw [hv] at this; simpa using this.symm
   rw [Int.sign_eq_neg_one_of_neg this] at hK; exact hK
  ·have : ¬ zv w < 0 := by
    have := neg_eq hw; rw [hb, Bool.and_false] at this
    simpa using this.symm
   rw [Int.sign_eq_one_of_pos (by omega)] at hK; exact hK
theorem zcmp_sound (hΓ : Holds P Γ) {f fs fm fc fn : Nat} (hs : Γ fs = .dat true zsign_G) (hm : Γ fm = .dat false zmag_G) (hc' : Γ fc = .dat false compare_G) (hn : Γ fn = .dat true znegp_G)
  (hc : check P f = some (28, (ac_integer_Cmp fs fm fc fn).strip, [.tmp 4])) : Sound P f (.dat true zcmp_G) := by
 refine sound_dat hc zcmp_good hΓ (fun args K hcl hfi hG => ?_)
 match args, hG with
 | [a, b], hG =>
  obtain ⟨v, rfl, hv, w, rfl, hw, hK⟩ := hG
  refine ⟨by simp, ?_⟩
  simp only [go_sem, ac_integer_Cmp, hs, hm, hc', hn, hv, hw]
  simp only [val_digs]
  have hs : ∀ n : Int, Int.sign n = if n < 0 then -1 else if n = 0 then 0 else 1 := by
   intro n
   split
   ·exact Int.sign_eq_neg_one_of_neg ‹_›
   ·split
    ·rename_i h; rw [h]; rfl
    ·exact Int.sign_eq_one_of_pos (by omega)
  rw [hs, hs]
  generalize zv v = x at hK ⊢
  generalize zv w = y at hK ⊢
  refine ⟨fun h => ⟨digs_WL _, digs_WL _, digs_NZ _, digs_NZ _, fun hx => ⟨?_, ?_⟩, fun hx => ?_⟩, fun h => ⟨fun h' => ?_, fun h' => ?_⟩⟩
  ·unfold ordN; split <;> (try split) <;> omega
  ·have e : -ordN x.natAbs y.natAbs = ordI x y := by
    unfold ordN ordI
    rw [if_pos hx] at h
    have hy : y < 0 := by
     split at h
     ·assumption
     ·split at h <;> omega
    split <;> (try split) <;> (try split) <;> (try split) <;> omega
   rw [e]; exact hK
  ·have e : ordN x.natAbs y.natAbs = ordI x y := by
    unfold ordN ordI
    rw [if_neg hx] at h
    have hy : ¬ y < 0 := by
     intro hy
     rw [if_pos hy] at h
     split at h <;> omega
    split <;> (try split) <;> (try split) <;> (try split) <;> omega
   rw [e]; exact hK
  ·have e : ordI x y = -1 := ordI_lt (by
    split at h' <;> split at h' <;> (try split at h') <;> (try split at h') <;> omega)
   rw [e] at hK; exact hK
  ·have e : ordI x y = 1 := ordI_gt (by
    split at h' <;> split at h' <;> (try split at h') <;> (try split at h') <;> (try split at h) <;> (try split at h) <;> (try split at h) <;> (try split at h) <;> omega)
   rw [e] at hK; exact hK
theorem zneg_sound (hΓ : Holds P Γ) {f fn fm fw : Nat} (hn : Γ fn = .dat true znegp_G) (hm : Γ fm = .dat false zmag_G) (hw' : Γ fw = .dat false whole_G) (hc : check P f = some (9, (ac_integer_Neg fn fm fw).strip, [.cell 2 2 true])) : Sound P f (.dat false zneg_G) := by
 refine sound_dat hc zneg_good hΓ (fun args K hcl hfi hG => ?_)
 match args, hG with
 | [a], hG =>
  obtain ⟨w, rfl, hw, hz, hK⟩ := hG
  refine ⟨by simp, ?_⟩
  simp only [go_sem, ac_integer_Neg, hn, hm, hw', hw]
  rw [val_digs]
  refine ⟨digs_WL _, hz, ?_⟩
  have e : sg (!decide (zv w < 0)) (zv w).natAbs = -zv w := by
   unfold sg
   by_cases h : zv w < 0 <;> simp [h] <;> omega
  rw [e]; exact hK
theorem zmul_sound (hΓ : Holds P Γ) {f fn fm ft fw : Nat} (hn : Γ fn = .dat true znegp_G) (hm : Γ fm = .dat false zmag_G) (ht : Γ ft = .dat false times_G) (hw' : Γ fw = .dat false whole_G) (hc : check P f = some (16, (ac_integer_Mul fn fm ft fw).strip, [.cell 4 2 true])) : Sound P f (.dat false zmul_G) := by
 refine sound_dat hc zmul_good hΓ (fun args K hcl hfi hG => ?_)
 match args, hG with
 | [a, b], hG =>
  obtain ⟨v, rfl, hv, w, rfl, hw, hz, hz', hK⟩ := hG
  refine ⟨by simp, ?_⟩
  simp only [go_sem, ac_integer_Mul, hn, hm, ht, hw', hw, hv]
  simp only [val_digs]
  have e : sg (!(decide (zv v < 0) == decide (zv w < 0))) ((zv v).natAbs * (zv w).natAbs) = zv v * zv w := sg_mul _ _
  rw [e]
  refine ⟨digs_WL _, digs_WL _, hz, hz', digs_WL _, ?_, hK⟩
  have := zs_mul (zv v) (zv w)
  unfold zs at *
  rw [← Int.natAbs_mul]; omega
theorem zadd_sound (hΓ : Holds P Γ) {f fn fm fp fw fc fl : Nat} (hn : Γ fn = .dat true znegp_G) (hm : Γ fm = .dat false zmag_G) (hp : Γ fp = .dat false plus_G) (hw' : Γ fw = .dat false whole_G) (hc' : Γ fc = .dat false compare_G) (hl : Γ fl = .dat false less_G) (hc : check P f = some (40, (ac_integer_Add fm fn fp fw fc fl).strip, [.cell 4 2 true])) : Sound P f (.dat false zadd_G) := by
 refine sound_dat hc zadd_good hΓ (fun args K hcl hfi hG => ?_)
 match args, hG with
 | [a, b], hG =>
  obtain ⟨v, rfl, hv, w, rfl, hw, hz, hz', hK⟩ := hG
  refine ⟨by simp, ?_⟩
  simp only [go_sem, ac_integer_Add, hn, hm, hp, hw', hc', hl, hw, hv]
  simp only [val_digs]
  have hsz := zs_add (zv v) (zv w)
  refine ⟨fun h => ⟨digs_WL _, digs_WL _, hz, hz', digs_WL _, ?_, ?_⟩, fun h => ⟨digs_WL _, digs_WL _, digs_NZ _, digs_NZ _, fun ho => ⟨digs_WL _, digs_WL _, by unfold zs at hz; omega, ?_, digs_WL _, ?_, ?_⟩, fun ho => ⟨digs_WL _, digs_WL _, by unfold zs at hz'; omega, ?_, digs_WL _, ?_, ?_⟩⟩⟩
  ·have e := sg_add_same (of_decide_beq h)
   rw [show (zv v).natAbs + (zv w).natAbs = (zv v + zv w).natAbs by have := of_decide_beq h; omega]
   unfold zs at *; omega
  ·rw [sg_add_same (of_decide_beq h)]; exact hK
  ·exact (ordN_ge.1 ho)
  ·have := digs_len_mono (Nat.sub_le (zv v).natAbs (zv w).natAbs); unfold zs at *; omega
  ·have h1 := ordN_ge.1 ho
   rw [sg_sub (of_decide_bne h) h1]; exact hK
  ·have := mt ordN_ge.2 ho; omega
  ·have := digs_len_mono (Nat.sub_le (zv w).natAbs (zv v).natAbs); unfold zs at *; omega
  ·have h1 := mt ordN_ge.2 ho
   rw [sg_sub (fun e => of_decide_bne h e.symm) (by omega), Int.add_comm]; exact hK
theorem zdiv_sound (hΓ : Holds P Γ) {f fn fm fp fw fd fl tE : Nat} (hn : Γ fn = .dat true znegp_G) (hm : Γ fm = .dat false zmag_G) (hp : Γ fp = .dat false plus_G) (hw' : Γ fw = .dat false whole_G) (hd : Γ fd = .dat false divide_G) (hl : Γ fl = .dat false less_G) (hc : check P f = some (47, (ac_integer_Div fm fd fn fp fl fw tE).strip, [.cell 4 2 true, .cell 5 2 true, .tmp 6])) : Sound P f (.dat false zdiv_G) := by
 refine sound_dat hc zdiv_good hΓ (fun args K hcl hfi hG => ?_)
 match args, hG with
 | [a, b], hG =>
  obtain ⟨v, rfl, hv, w, rfl, hw, hz, hz', h0, hK⟩ := hG
  refine ⟨by simp, ?_⟩
  simp only [go_sem, ac_integer_Div, hn, hm, hp, hw', hd, hl, hw, hv]
  simp only [val_digs]
  have hne : ¬ (digs (zv w).natAbs).length = 0 := fun e => h0 (zs_eq_zero.1 e)
  intro _
  refine ⟨fun e => absurd e hne, fun _ => ⟨digs_WL _, digs_WL _, digs_NZ _, digs_NZ _, fun e => hne (by rw [e]; rfl), hz, hz', ?_⟩⟩
  have hq : (digs ((zv v).natAbs / (zv w).natAbs)).length ≤ 17179869184 := Nat.le_trans (digs_len_mono (Nat.div_le_self _ _)) hz
  have hr : (digs ((zv v).natAbs % (zv w).natAbs)).length ≤ 17179869184 := Nat.le_trans (digs_len_mono (Nat.mod_le _ _)) hz
  have hz'' : (digs (zv w).natAbs).length ≤ 17179869184 := hz'
  have hlt := Nat.mod_lt (zv v).natAbs (show 0 < (zv w).natAbs by omega)
  have hfin : (0 ≤ zv v ∨ (zv v).natAbs % (zv w).natAbs = 0) → K (AV.tup
    [AV.agg [zb (zcan (sg (!(decide (zv v < 0) == decide (zv w < 0))) ((zv v).natAbs / (zv w).natAbs))), zm (zcan (sg (!(decide (zv v < 0) == decide (zv w < 0))) ((zv v).natAbs / (zv w).natAbs)))],
     AV.agg [zb (zcan (sg false ((zv v).natAbs % (zv w).natAbs))), zm (zcan (sg false ((zv v).natAbs % (zv w).natAbs)))], AV.one (C.lit Value.nilIface)]) := by
   intro h
   obtain ⟨e1, e2⟩ := ediv_pos h0 h
   have e1' : sg (!(decide (zv v < 0) == decide (zv w < 0))) ((zv v).natAbs / (zv w).natAbs) = zv v / zv w := e1
   have e2' : sg false ((zv v).natAbs % (zv w).natAbs) = zv v % zv w := e2
   rw [e1', e2']; exact hK
  refine ⟨fun hneg _ => ⟨fun hp => ⟨digs_WL _, (onWs_1 _ 1).mpr ⟨WL_cons.2 ⟨by decide, WL_nil⟩, hq, by decide, digs_WL _, digs_WL _, by omega, by omega, digs_WL _, ?_, digs_WL _, ?_, ?_⟩⟩, fun hp => ⟨digs_WL _, by omega, digs_WL _, by omega, hfin (.inr ?_)⟩⟩, fun hneg => ⟨digs_WL _, by omega, digs_WL _, by omega, hfin (.inl (by omega))⟩⟩
  ·have hv1 : val [1] = 1 := rfl
   rw [hv1]
   have h1 : zs 1 ≤ 2 := zs_of (by decide)
   have := zs_add (((zv v).natAbs / (zv w).natAbs : Nat) : Int) 1
   have e : (((zv v).natAbs / (zv w).natAbs : Nat) : Int) + 1 = (((zv v).natAbs / (zv w).natAbs + 1 : Nat) : Int) := by omega
   rw [e] at this
   have h3 : zs (((zv v).natAbs / (zv w).natAbs : Nat) : Int) = (digs ((zv v).natAbs / (zv w).natAbs)).length := rfl
   have h4 : zs (((zv v).natAbs / (zv w).natAbs + 1 : Nat) : Int) = (digs ((zv v).natAbs / (zv w).natAbs + 1)).length := rfl
   rw [h3, h4] at this
   omega
  ·have := digs_len_mono (Nat.sub_le (zv w).natAbs ((zv v).natAbs % (zv w).natAbs)); omega
  ·have hv1 : val [1] = 1 := rfl
   rw [hv1]
   have hne' : (zv v).natAbs % (zv w).natAbs ≠ 0 := by
    intro e; rw [e, digs_zero] at hp; simp at hp
   obtain ⟨e1, e2⟩ := ediv_neg h0 hneg hne'
   have e1' : sg (!(decide (zv v < 0) == decide (zv w < 0))) ((zv v).natAbs / (zv w).natAbs + 1) = zv v / zv w := e1
   have e2' : sg false ((zv w).natAbs - (zv v).natAbs % (zv w).natAbs) = zv v % zv w := e2
   rw [e1', e2']; exact hK
  ·have : digs ((zv v).natAbs % (zv w).natAbs) = [] := List.eq_nil_of_length_eq_zero (by omega)
   exact digs_eq_nil.1 this
theorem zgcd_sound (hΓ : Holds P Γ) {f fm fd fw : Nat} (hm : Γ fm = .dat false zmag_G) (hw' : Γ fw = .dat false whole_G) (hd : Γ fd = .dat false divide_G) (hc : check P f = some (26, (ac_integer_Gcd fm fd fw).strip, [.cell 4 2 true])) : Sound P f (.dat false zgcd_G) := by
 refine sound_dat hc zgcd_good hΓ (fun args K hcl hfi hG => ?_)
 match args, hG with
 | [a, b], hG =>
  obtain ⟨v, rfl, hv, w, rfl, hw, hz, hz', hK⟩ := hG
  refine ⟨by simp, ?_⟩
  simp only [go_sem, ac_integer_Gcd, hm, hw', hd, hw, hv]
  refine wpA_loop (fun p : Nat × Nat => ⟨mkV [(4, .one (.ptr 4 1 0 0)), (5, .one (ws (digs p.1))), (6, .one (ws (digs p.2)))], mkH [(4, ⟨1, some ⟨[[.lit (.bool false), .emp]], 2, true⟩⟩)]⟩)
   (fun p => (digs p.1).length ≤ 17179869184 ∧ (digs p.2).length ≤ 17179869184 ∧ Nat.gcd p.1 p.2 = Int.gcd (zv v) (zv w)) (fun p => p.2) ((zv v).natAbs, (zv w).natAbs) ?_ ?_ ?_
  ·exact weak_lit (by simp [okS, okV, okC, okL, okH, okB, okE, mkV_cons, mkV_nil, mkH_cons, mkH_nil, wsA, ws]) ⟨⟨⟨rfl, rfl⟩, .inr ⟨⟨rfl, trivial, trivial⟩, trivial⟩⟩, trivial⟩
  ·exact ⟨hz, hz', rfl⟩
  ·rintro ⟨a, b⟩ ⟨ha, hb, hg⟩
   simp only at ha hb hg
   simp only [go_sem, hm, hw', hd, ws]
   simp only [val_digs]
   refine fun _ => ⟨fun h => ⟨digs_WL _, digs_WL _, digs_NZ _, digs_NZ _, fun e => by rw [e] at h; simp at h, ha, hb, ?_⟩, fun h => ⟨digs_WL _, by omega, ?_⟩⟩
   ·have hb0 : 0 < b := by
     rcases Nat.eq_zero_or_pos b with e | e
     ·rw [e, digs_zero] at h; simp at h
     ·exact e
    refine ⟨(b, a % b), weak_lit (by simp [okS, okV, okC, okL, okH, okB, okE, mkV_cons, mkV_nil, mkH_cons, mkH_nil, wsA, ws]) ⟨⟨⟨rfl, rfl⟩, .inr ⟨⟨rfl, trivial, trivial⟩, trivial⟩⟩, trivial⟩, ⟨hb, Nat.le_trans (digs_len_mono (Nat.mod_le _ _)) ha, ?_⟩, Nat.mod_lt _ hb0⟩
    rw [← hg]
    show Nat.gcd b (a % b) = _
    rw [Nat.gcd_comm b, ← Nat.gcd_rec, Nat.gcd_comm]
   ·have : digs b = [] := List.eq_nil_of_length_eq_zero (by omega)
    rw [digs_eq_nil.1 this, Nat.gcd_zero_right] at hg
    rw [hg]; exact hK
end Go.Abs
end
section
set_option linter.unusedVariables false
set_option linter.unusedSimpArgs false
set_option maxRecDepth 100000
namespace Go.Num
open Go.Abs
theorem pl_ok {l : List Ps} (h3 : l.length = 3) (hv : l.all pvld = true) : threeC l = 0 := by
 have e : plchk l = 0 := by unfold plchk; rw [if_neg (by omega), if_neg (by omega), if_pos hv]
 unfold threeC; rw [if_neg (by omega), if_pos h3]
end Go.Num
namespace Go.Abs
open Go.Num
variable {P : Program} {Γ : Nat → Spec}
def z6 : List C := [.lit (.bool false), .emp, .emp, .lit (.bool false), .emp, .emp]
theorem int_1 : ((1 : Nat) : Int) = 1 := rfl
def lEither_G (l : List AV) (K : AV → Prop) : Prop :=
 match l with
 | [a, b] => onP3 (fun t => onA (fun m => okPs 1048576 (l3 t) ∧ al m ≤ 1048576 ∧ K (.one (.lit (.bool true)))) b) a
 | _ => False
theorem lEither_Ge (a b : AV) (K : AV → Prop) : lEither_G [a, b] K = (onP3 (fun t => onA (fun m => okPs 1048576 (l3 t) ∧ al m ≤ 1048576 ∧ K (.one (.lit (.bool true)))) b) a) := propext Iff.rfl
@[congr] theorem lEither_Gc {K : AV → Prop} {l l' : List AV} (h : l = l') : lEither_G l K = lEither_G l' K := by subst h; rfl
attribute [go_sem] lEither_Ge
attribute [go_sem ↓] lEither_Ge
end Go.Abs
end
section
set_option linter.unusedVariables false
set_option linter.unusedSimpArgs false
set_option maxRecDepth 100000
namespace Go.Num
open Go.Abs
theorem three_0' {l : List Ps} (h : threeC l = 0) : plchk l = 0 := by
 unfold threeC at h
 split at h
 ·rename_i h1; exact absurd h h1
 ·rename_i h1; omega
theorem imgs_3 (t : P3) (m : Arc) : imgs (l3 t) m = [appQ (pv t.1) (av m), appQ (pv t.2.1) (av m), appQ (pv t.2.2) (av m)] := rfl
theorem psnB_3 (t : P3) (c m : Arc) (r : Rat) : psnB (l3 t) (c, m, rcan r) = true ↔ sqQ (subQ (appQ (pv t.1) (av m)) (av c)) = r ∧ sqQ (subQ (appQ (pv t.2.1) (av m)) (av c)) = r ∧ sqQ (subQ (appQ (pv t.2.2) (av m)) (av c)) = r := by
 unfold psnB
 simp only [imgs_3, List.all_cons, List.all_nil, Bool.and_true, Bool.and_eq_true, decide_eq_true_eq, rv_rcan]
theorem ciV_of {A : List V2} (h : crV A ≠ 0) : ciV A = ctrQ (pt 0 A) (subQ (pt 1 A) (pt 0 A)) (subQ (pt 2 A) (pt 0 A)) := if_neg h
theorem cen_pass {t : P3} {m : Arc} (h : crV (imgs (l3 t) m) ≠ 0) : psnB (l3 t) ((rcan (ciV (imgs (l3 t) m)).1, rcan (ciV (imgs (l3 t) m)).2), m, rcan (sqQ (subQ (pt 0 (imgs (l3 t) m)) (ciV (imgs (l3 t) m))))) = true := by
 rw [psnB_3]
 have e : av (rcan (ciV (imgs (l3 t) m)).1, rcan (ciV (imgs (l3 t) m)).2) = ciV (imgs (l3 t) m) := av_can _
 rw [e]
 obtain ⟨k1, k2⟩ := ctr_eq (x := pt 0 (imgs (l3 t) m)) (y := pt 1 (imgs (l3 t) m)) (z := pt 2 (imgs (l3 t) m)) h
 rw [← ciV_of h] at k1 k2
 exact ⟨rfl, k1, k2⟩
theorem cen_not {t : P3} {m o : Arc} (h : crV (imgs (l3 t) m) ≠ 0) (hp : psnB (l3 t) (o, m, rcan (sqQ (subQ (appQ (pv t.1) (av m)) (av o)))) = true) : av o = ciV (imgs (l3 t) m) := by
 rw [psnB_3] at hp
 rw [ciV_of h]
 exact (ctr_of (x := pt 0 (imgs (l3 t) m)) (y := pt 1 (imgs (l3 t) m)) (z := pt 2 (imgs (l3 t) m)) h hp.2.1.symm hp.2.2.symm).symm
theorem mov_pass {t : P3} {m : Arc} (h : crV (imgsB (l3 t) m) ≠ 0) : psnB (l3 t) (m, (rcan (ciV (imgsB (l3 t) m)).1, rcan (ciV (imgsB (l3 t) m)).2), rcan (sqQ (subQ (pt 0 (imgsB (l3 t) m)) (ciV (imgsB (l3 t) m))))) = true := by
 rw [psnB_3]
 have e : av (rcan (ciV (imgsB (l3 t) m)).1, rcan (ciV (imgsB (l3 t) m)).2) = ciV (imgsB (l3 t) m) := av_can _
 rw [e]
 obtain ⟨k1, k2⟩ := ctr_eq (x := pt 0 (imgsB (l3 t) m)) (y := pt 1 (imgsB (l3 t) m)) (z := pt 2 (imgsB (l3 t) m)) h
 rw [← ciV_of h] at k1 k2
 obtain ⟨c, hc⟩ : ∃ c, ciV (imgsB (l3 t) m) = c := ⟨_, rfl⟩
 rw [hc] at k1 k2 ⊢
 have d0 : sqQ (subQ (pt 0 (imgsB (l3 t) m)) c) = sqQ (subQ (appQ (pv t.1) c) (av m)) := dist_inv (pv t.1) c (av m)
 have d1 : sqQ (subQ (pt 1 (imgsB (l3 t) m)) c) = sqQ (subQ (appQ (pv t.2.1) c) (av m)) := dist_inv (pv t.2.1) c (av m)
 have d2 : sqQ (subQ (pt 2 (imgsB (l3 t) m)) c) = sqQ (subQ (appQ (pv t.2.2) c) (av m)) := dist_inv (pv t.2.2) c (av m)
 exact ⟨d0.symm, by rw [← d1, k1], by rw [← d2, k2]⟩
theorem mov_not {t : P3} {m o : Arc} (h : crV (imgsB (l3 t) m) ≠ 0) (hp : psnB (l3 t) (m, o, rcan (sqQ (subQ (appQ (pv t.1) (av o)) (av m)))) = true) : av o = ciV (imgsB (l3 t) m) := by
 rw [psnB_3] at hp
 rw [ciV_of h]
 have d0 : sqQ (subQ (pt 0 (imgsB (l3 t) m)) (av o)) = sqQ (subQ (appQ (pv t.1) (av o)) (av m)) := dist_inv (pv t.1) (av o) (av m)
 have d1 : sqQ (subQ (pt 1 (imgsB (l3 t) m)) (av o)) = sqQ (subQ (appQ (pv t.2.1) (av o)) (av m)) := dist_inv (pv t.2.1) (av o) (av m)
 have d2 : sqQ (subQ (pt 2 (imgsB (l3 t) m)) (av o)) = sqQ (subQ (appQ (pv t.2.2) (av o)) (av m)) := dist_inv (pv t.2.2) (av o) (av m)
 exact (ctr_of h (by rw [d0, d1, hp.2.1]) (by rw [d0, d2, hp.2.2])).symm
theorem av_acan {o : Arc} {c : V2} (hw : WLA o) (ho : avld o = true) (h : av o = c) : o = (rcan c.1, rcan c.2) := by
 rw [← h]; exact (can_av hw ho).symm
theorem av_can2 (a : V2) : av (rcan a.1, rcan a.2) = a := av_can a
theorem dl_3 {c m : Arc} {r : Rat} {b : Nat} (h1 : al c ≤ b) (h2 : al m ≤ b) (h3 : rz r ≤ b) : dl (c, m, rcan r) ≤ b := Nat.max_le.2 ⟨h1, Nat.max_le.2 ⟨h2, h3⟩⟩
end Go.Num
namespace Go.Abs
open Go.Num
variable {P : Program} {Γ : Nat → Spec}
def dqC (d : DyQ) : List C := [cb (rcan d.1.1), cn (rcan d.1.1), cd (rcan d.1.1), cb (rcan d.1.2), cn (rcan d.1.2), cd (rcan d.1.2), cb (rcan d.2.1.1), cn (rcan d.2.1.1), cd (rcan d.2.1.1), cb (rcan d.2.1.2), cn (rcan d.2.1.2), cd (rcan d.2.1.2), cb (rcan d.2.2), cn (rcan d.2.2), cd (rcan d.2.2)]
theorem t10 : ((1 : Int) = 0) = False := eq_false (by decide)
theorem getE_i1 (K : List C → Prop) (a b : List C) (r : List (List C)) : getE K (a :: b :: r) 1 = K b := by
 unfold getE
 refine propext ⟨fun h => h.2 b rfl, fun h => ⟨by simp, fun e he => ?_⟩⟩
 simp only [List.getElem?_cons_succ, List.getElem?_cons_zero, Option.some.injEq] at he
 subst he; exact h
theorem t20b : ((0 : Int) < ((2 : Nat) : Int)) = True := eq_true (by decide)
theorem t21b : ((1 : Int) < ((2 : Nat) : Int)) = True := eq_true (by decide)
theorem t01 : ((0 : Int) = 1) = False := eq_false (by decide)
theorem t20 : ((0 : Int) < 2) = True := eq_true (by decide)
theorem t21 : ((1 : Int) < 2) = True := eq_true (by decide)
def lPasses_G (l : List AV) (K : AV → Prop) : Prop :=
 match l with
 | [a, b, c] => onP3 (fun t => onA (fun m => onA (fun o => okPs 1048576 (l3 t) ∧ al m ≤ 1048576 ∧ al o ≤ 1048576 ∧ K (.one (.lit (.bool true)))) c) b) a
 | _ => False
theorem lPasses_Ge (a b c : AV) (K : AV → Prop) : lPasses_G [a, b, c] K = (onP3 (fun t => onA (fun m => onA (fun o => okPs 1048576 (l3 t) ∧ al m ≤ 1048576 ∧ al o ≤ 1048576 ∧ K (.one (.lit (.bool true)))) c) b) a) := propext Iff.rfl
@[congr] theorem lPasses_Gc {K : AV → Prop} {l l' : List AV} (h : l = l') : lPasses_G l K = lPasses_G l' K := by subst h; rfl
attribute [go_sem] lPasses_Ge
attribute [go_sem ↓] lPasses_Ge
theorem lPasses_good : Good lPasses_G := good_of fun as => by
 unfold lPasses_G
 split
 ·exact (g_onP3 fun _ => (g_onA fun _ => (g_onA fun _ => (.and fun _ => (.and fun _ => (.and fun _ => (.ret _)))))))
 ·exact .of fun K hk => hk.elim
def ac_linkworklaw46_ThreeposPasses (f0 f1 f2 f3 f4 f5 f6 f7 f8 f9 f10 f11 f12 f13 : Nat) : AC := (.seq (.ops false [.u 3 (.box 30 (.t 0)), .u 4 (.box 6 (.t 1)), .u 5 (.box 6 (.t 2)), .m 6 .fa])
 (.fg [3, 4, 5] (.fz [3] (.seq (.seq (.ops false [.u 21 (.call f0 []), .u 22 (.un .not (.t 21)), .m 23 (.t 22), .w 24 23 false (.rsl 10 3 (.t 3)), .w 25 23 false (.call f1 [(.t 24)]), .w 26 23 false (.un .not (.t 25)), .u 27 (.pick (.t 23) .tr (.t 26)), .m 28 (.t 27), .w 29 28 false (.ld none 6 true (.t 4)), .w 30 28 false (.ld none 6 true (.t 5)), .w 31 28 false (.row 6 [[.x 6 (.t 29)], [.x 6 (.t 30)]]), .w 32 28 false (.call f2 [(.t 31)]), .w 33 28 false (.un .not (.t 32)), .u 34 (.pick (.t 28) .tr (.t 33)), .m 35 (.t 34), .w 36 35 false (.ld none 6 true (.t 4)), .w 37 35 false (.call f3 [(.t 36)]), .w 38 35 false (.un .not (.t 37)), .u 39 (.pick (.t 35) .tr (.t 38)), .m 40 (.t 39), .w 41 40 false (.ld none 6 true (.t 5)), .w 42 40 false (.call f3 [(.t 41)]), .w 43 40 false (.un .not (.t 42)), .u 44 (.pick (.t 40) .tr (.t 43))])
 (.fg [3, 4, 5, 44] (.cond (.t 44) (.seq (.ops false [.u 45 (.call f0 []), .m 6 (.t 45)])
 .ret) .skip)))
 (.fg [3, 4, 5] (.seq (.seq (.ops false [.u 46 (.ld none 30 true (.t 3)), .m 47 (.i 0)])
 (.fg [3, 4, 5, 46, 47] (.block 0 (.loop (.seq (.ops false [.u 48 (.bin .lss (.t 47) (.i 3))])
 (.fg [3, 4, 5, 46, 47, 48] (.seq (.cond (.t 48) .skip (.exit 0))
 (.fg [3, 4, 5, 46, 47] (.seq (.block 1 (.seq (.ops false [.u 49 (.aix 10 true 3 (.t 46) (.t 47)), .u 8 (.alloc [(.lit (.bool false)), .emp, .emp, (.lit (.bool false)), (.lit (.bool false)), .emp, .emp, (.lit (.bool false)), .emp, .emp]), .n (.st none 10 (.t 8) (.t 49))])
 (.fg [3, 4, 5, 8, 46, 47] (.seq (.ops false [.u 50 (.ld none 10 true (.t 8)), .u 51 (.call f4 [(.t 50)]), .u 52 (.un .not (.t 51))])
 (.fg [3, 4, 5, 46, 47, 52] (.cond (.t 52) (.seq (.ops false [.m 6 .tr])
 .ret) .skip))))))
 (.fg [3, 4, 5, 46, 47] (.ops false [.u 53 (.bin .add (.t 47) (.i 1)), .m 47 (.t 53)])))))))))))
 (.fg [3, 4, 5] (.seq (.ops true [.u 55 (.rsl 10 3 (.t 3)), .u 56 (.ld none 6 true (.t 4)), .u 57 (.call f5 [(.t 55), (.t 56)]), .m 54 (.t 57), .u 58 (.ext 0 (.t 54)), .u 59 (.ext 1 (.t 54)), .u 9 (.alloc [(.lit (.bool false)), .emp, .emp, (.lit (.bool false)), .emp, .emp, (.lit (.bool false)), .emp, .emp, (.lit (.bool false)), .emp, .emp, (.lit (.bool false)), .emp, .emp]), .n (.st none 15 (.t 9) (.t 58)), .m 10 (.t 59)])
 (.fg [3, 4, 5, 9, 10] (.seq (.ops true [.u 61 (.rsl 10 3 (.t 3)), .u 62 (.ld none 6 true (.t 4)), .u 63 (.call f6 [(.t 61), (.t 62)]), .m 60 (.t 63), .u 64 (.ext 0 (.t 60)), .u 65 (.ext 1 (.t 60)), .u 11 (.alloc [(.lit (.bool false)), .emp, .emp, (.lit (.bool false)), .emp, .emp, (.lit (.bool false)), .emp, .emp, (.lit (.bool false)), .emp, .emp, (.lit (.bool false)), .emp, .emp]), .n (.st none 15 (.t 11) (.t 64)), .m 12 (.t 65)])
 (.fg [3, 4, 5, 9, 10, 11, 12] (.seq (.ops false [.m 66 (.t 10), .m 67 (.t 12), .u 68 (.row 1 [[.x 1 (.t 66)], [.x 1 (.t 67)]]), .m 13 (.t 68)])
 (.fg [3, 4, 5, 9, 11, 13] (.seq (.seq (.ops false [.u 69 (.ld none 15 true (.t 9)), .u 70 (.ld none 15 true (.t 11)), .u 71 (.row 15 [[.x 15 (.t 69)], [.x 15 (.t 70)]]), .u 72 (.len (.t 71)), .m 73 (.i 0)])
 (.fg [3, 4, 5, 13, 71, 72, 73] (.block 2 (.loop (.seq (.ops false [.u 74 (.bin .lss (.t 73) (.t 72))])
 (.fg [3, 4, 5, 13, 71, 72, 73, 74] (.seq (.cond (.t 74) .skip (.exit 2))
 (.fg [3, 4, 5, 13, 71, 72, 73] (.seq (.block 3 (.seq (.ops false [.m 75 (.t 73), .u 76 (.idx 15 (.t 71) (.t 73)), .u 77 (.ld none 15 true (.t 76)), .u 15 (.alloc [(.lit (.bool false)), .emp, .emp, (.lit (.bool false)), .emp, .emp, (.lit (.bool false)), .emp, .emp, (.lit (.bool false)), .emp, .emp, (.lit (.bool false)), .emp, .emp]), .m 14 (.t 75), .n (.st none 15 (.t 15) (.t 77))])
 (.fg [3, 4, 5, 13, 14, 15, 71, 72, 73] (.seq (.seq (.ops false [.m 78 (.t 13), .m 79 (.t 14), .u 80 (.idx 1 (.t 78) (.t 79)), .u 81 (.ld none 1 false (.t 80)), .u 82 (.binn .neq (.t 81) (.c (.one (.lit .nilIface))))])
 (.fg [3, 4, 5, 13, 14, 15, 71, 72, 73, 82] (.cond (.t 82) (.seq (.seq (.ops false [.m 83 (.t 13), .m 84 (.t 14), .u 85 (.idx 1 (.t 83) (.t 84)), .u 86 (.ld none 1 false (.t 85)), .u 87 (.call f7 [(.t 86), (.i 8)]), .u 88 (.un .not (.t 87))])
 (.fg [3, 4, 5, 13, 71, 72, 73, 88] (.cond (.t 88) (.seq (.ops false [.m 6 .fa])
 .ret) .skip)))
 (.exit 3)) .skip)))
 (.fg [3, 4, 5, 13, 14, 15, 71, 72, 73] (.seq (.ops true [.u 90 (.rsl 10 3 (.t 3)), .u 91 (.ld none 15 true (.t 15)), .u 92 (.call f8 [(.t 90), (.t 91)]), .m 89 (.t 92), .u 93 (.ext 0 (.t 89)), .u 94 (.ext 1 (.t 89)), .m 16 (.t 93), .m 17 (.t 94)])
 (.fg [3, 4, 5, 13, 14, 15, 16, 17, 71, 72, 73] (.seq (.seq (.ops false [.m 95 (.t 17), .u 96 (.binn .neq (.t 95) (.c (.one (.lit .nilIface)))), .m 97 (.t 96), .w 98 97 false (.mv (.t 16)), .w 99 97 false (.un .not (.t 98)), .u 100 (.pick (.t 97) .tr (.t 99)), .m 101 (.t 100), .w 102 101 false (.mv (.t 14)), .w 103 101 false (.bin .eql (.t 102) (.i 0)), .w 104 101 false (.mv (.t 103)), .w 105 104 true (.fa 6 (.t 15)), .w 106 104 true (.ld none 6 true (.t 105)), .w 107 104 true (.ld none 6 true (.t 4)), .w 108 104 true (.call f9 [(.t 106), (.t 107)]), .w 109 104 true (.un .not (.t 108)), .w 110 101 false (.pick (.t 104) (.t 109) .fa), .u 111 (.pick (.t 101) .tr (.t 110)), .m 112 (.t 111), .w 113 112 false (.mv (.t 14)), .w 114 112 false (.bin .eql (.t 113) (.i 1)), .w 115 112 false (.mv (.t 114)), .w 116 115 true (.fa 0 (.t 15)), .w 117 115 true (.ld none 6 true (.t 116)), .w 118 115 true (.ld none 6 true (.t 4)), .w 119 115 true (.call f9 [(.t 117), (.t 118)]), .w 120 115 true (.un .not (.t 119)), .w 121 112 false (.pick (.t 115) (.t 120) .fa), .u 122 (.pick (.t 112) .tr (.t 121))])
 (.fg [3, 4, 5, 13, 14, 15, 71, 72, 73, 122] (.cond (.t 122) (.seq (.ops false [.m 6 .fa])
 .ret) .skip)))
 (.fg [3, 4, 5, 13, 14, 15, 71, 72, 73] (.seq (.ops false [.u 123 (.ld none 15 true (.t 15)), .u 18 (.alloc [(.lit (.bool false)), .emp, .emp, (.lit (.bool false)), .emp, .emp, (.lit (.bool false)), .emp, .emp, (.lit (.bool false)), .emp, .emp, (.lit (.bool false)), .emp, .emp]), .n (.st none 15 (.t 18) (.t 123))])
 (.fg [3, 4, 5, 13, 14, 15, 18, 71, 72, 73] (.seq (.seq (.ops false [.m 124 (.t 14), .u 125 (.bin .eql (.t 124) (.i 0))])
 (.fg [3, 4, 5, 13, 15, 18, 71, 72, 73, 125] (.cond (.t 125) (.ops false [.u 126 (.ld none 6 true (.t 5)), .u 127 (.fa 0 (.t 18)), .n (.st none 6 (.t 127) (.t 126))]) (.ops false [.u 128 (.ld none 6 true (.t 5)), .u 129 (.fa 6 (.t 18)), .n (.st none 6 (.t 129) (.t 128))]))))
 (.fg [3, 4, 5, 13, 15, 18, 71, 72, 73] (.seq (.ops false [.u 131 (.ai 10 3 (.t 3) (.i 0)), .u 132 (.ld none 10 true (.t 131)), .u 133 (.fa 6 (.t 18)), .u 134 (.ld none 6 true (.t 133)), .u 135 (.call f10 [(.t 132), (.t 134)]), .m 130 (.t 135), .u 136 (.ext 0 (.t 130)), .u 137 (.ext 1 (.t 130)), .u 19 (.alloc [(.lit (.bool false)), .emp, .emp, (.lit (.bool false)), .emp, .emp]), .n (.st none 6 (.t 19) (.t 136)), .m 20 (.t 137)])
 (.fg [3, 4, 5, 13, 15, 18, 19, 20, 71, 72, 73] (.seq (.seq (.ops false [.m 138 (.t 20), .u 139 (.binn .neq (.t 138) (.c (.one (.lit .nilIface))))])
 (.fg [3, 4, 5, 13, 15, 18, 19, 71, 72, 73, 139] (.cond (.t 139) (.seq (.ops false [.m 6 .fa])
 .ret) .skip)))
 (.fg [3, 4, 5, 13, 15, 18, 19, 71, 72, 73] (.seq (.ops false [.u 140 (.ld none 6 true (.t 19)), .u 141 (.fa 0 (.t 18)), .u 142 (.ld none 6 true (.t 141)), .u 143 (.call f11 [(.t 140), (.t 142)]), .u 144 (.call f12 [(.t 143)]), .u 145 (.fa 12 (.t 18)), .n (.st none 3 (.t 145) (.t 144))])
 (.fg [3, 4, 5, 13, 15, 18, 71, 72, 73] (.seq (.seq (.ops false [.u 146 (.ld none 15 true (.t 18)), .u 147 (.ld none 15 true (.t 15)), .u 148 (.call f13 [(.t 146), (.t 147)])])
 (.fg [3, 4, 5, 13, 18, 71, 72, 73, 148] (.cond (.t 148) (.exit 3) .skip)))
 (.fg [3, 4, 5, 13, 18, 71, 72, 73] (.seq (.ops true [.u 150 (.rsl 10 3 (.t 3)), .u 151 (.ld none 15 true (.t 18)), .u 152 (.call f8 [(.t 150), (.t 151)]), .m 149 (.t 152), .u 153 (.ext 0 (.t 149)), .u 154 (.ext 1 (.t 149)), .m 16 (.t 153), .m 17 (.t 154)])
 (.fg [3, 4, 5, 13, 16, 17, 71, 72, 73] (.seq (.ops false [.m 155 (.t 17), .u 156 (.binn .neq (.t 155) (.c (.one (.lit .nilIface)))), .m 157 (.t 156), .w 158 157 false (.mv (.t 16)), .u 159 (.pick (.t 157) .tr (.t 158))])
 (.fg [3, 4, 5, 13, 71, 72, 73, 159] (.cond (.t 159) (.seq (.ops false [.m 6 .fa])
 .ret) .skip))))))))))))))))))))))))))
 (.fg [3, 4, 5, 13, 71, 72, 73] (.ops false [.u 160 (.bin .add (.t 73) (.i 1)), .m 73 (.t 160)])))))))))))
 (.fg [] (.seq (.ops false [.m 6 .tr])
 .ret))))))))))))))))
set_option maxHeartbeats 0 in
theorem lPasses_sound (hΓ : Holds P Γ) {f fw fs fa fp fv fc fm fi ft fe fy fl fq fd tE : Nat} (hw : Γ fw = .dat true awk46_G) (hs : Γ fs = .dat true lshort_G) (ha : Γ fa = .dat true ashort_G) (hp : Γ fp = .dat true pvalid_G) (hv : Γ fv = .dat true pvld_G) (hx : Γ fc = .dat false (tcentre_G tE)) (hx2 : Γ fm = .dat false (tmoving_G tE)) (hi : Γ fi = .dat true (bis_G tE)) (ht : Γ ft = .dat false (tpasses_G tE)) (he : Γ fe = .dat true lsame_G) (hy : Γ fy = .dat false (papp_G tE)) (hl : Γ fl = .dat false pless_G) (hq : Γ fq = .dat false psq_G) (hd : Γ fd = .dat true dequal_G) (hc : check P f = some (161, (ac_linkworklaw46_ThreeposPasses fw fs fa fp fv fc fm fi ft fe fy fl fq fd).strip, [.tmp 6])) : Sound P f (.dat true lPasses_G) := by
 refine sound_dat hc lPasses_good hΓ (fun args K hcl hfi hG => ?_)
 match args, hG with
 | [a, b, c], hG =>
  obtain ⟨t, rfl, hwt, m, rfl, hwm, o, rfl, hwo, hok, hm, ho, hK⟩ := hG
  refine ⟨by simp, ?_⟩
  have hwl := l3_wl hwt
  have ok1 := okPs_mono hok (by decide : 1048576 ≤ 4294967296)
  have om1 : okAs 4294967296 [m, o] := fun z hz => by
   simp only [List.mem_cons, List.not_mem_nil, or_false] at hz
   rcases hz with rfl | rfl
   ·exact ⟨hwm, by omega⟩
   ·exact ⟨hwo, by omega⟩
  have hl3 : (l3 t).length = 3 := rfl
  have hmv : al m ≤ 100000000 := by omega
  have hov : al o ≤ 100000000 := by omega
  cases hsl : (decide ((l3 t).length ≤ 20) && (l3 t).all sP) with
  | false =>
   simp only [go_sem, ac_linkworklaw46_ThreeposPasses, hw, hs, ha, hsl, aC_eq, mk_eta]
   repeat (first | (refine And.intro (by omega) ?_) | (refine And.intro (by assumption) ?_) | (refine And.intro rfl ?_) | (refine And.intro ⟨rfl, by omega⟩ ?_) | (refine And.intro ⟨rfl, by omega, by omega⟩ ?_) | (intro _))
   exact hK
  | true =>
  cases hsm : List.all [m, o] sA with
  | false =>
   simp only [go_sem, ac_linkworklaw46_ThreeposPasses, hw, hs, ha, hsl, aC_eq, mk_eta, hsm]
   repeat (first | (refine And.intro (by omega) ?_) | (refine And.intro (by assumption) ?_) | (refine And.intro rfl ?_) | (refine And.intro ⟨rfl, by omega⟩ ?_) | (refine And.intro ⟨rfl, by omega, by omega⟩ ?_) | (intro _))
   exact hK
  | true =>
  cases hav : avld m with
  | false =>
   simp only [go_sem, ac_linkworklaw46_ThreeposPasses, hw, hs, ha, hp, hsl, aC_eq, mk_eta, hsm, hav]
   repeat (first | (refine And.intro (by omega) ?_) | (refine And.intro (by assumption) ?_) | (refine And.intro rfl ?_) | (refine And.intro ⟨rfl, by omega⟩ ?_) | (refine And.intro ⟨rfl, by omega, by omega⟩ ?_) | (intro _))
   exact hK
  | true =>
  cases hao : avld o with
  | false =>
   simp only [go_sem, ac_linkworklaw46_ThreeposPasses, hw, hs, ha, hp, hsl, aC_eq, mk_eta, hsm, hav, hao]
   repeat (first | (refine And.intro (by omega) ?_) | (refine And.intro (by assumption) ?_) | (refine And.intro rfl ?_) | (refine And.intro ⟨rfl, by omega⟩ ?_) | (refine And.intro ⟨rfl, by omega, by omega⟩ ?_) | (intro _))
   exact hK
  | true =>
   have hsl2 := hsl
   simp only [Bool.and_eq_true, decide_eq_true_eq] at hsl2
   have hsm2 := hsm
   simp only [List.all_cons, List.all_nil, Bool.and_true, Bool.and_eq_true] at hsm2
   have o2l := short_ok hwl hsl2.2
   have o2m := short_al hsm2.1
   have o2o := short_al hsm2.2
   have ok2 := okPs_mono o2l (by decide : 2 ≤ 1000)
   have om2 : al m ≤ 10000 := by omega
   simp only [go_sem, ac_linkworklaw46_ThreeposPasses, hw, hs, ha, hp, hsl, aC_eq, mk_eta, hsm, hav, hao]
   repeat (first | (refine And.intro (by omega) ?_) | (refine And.intro (by assumption) ?_) | (refine And.intro rfl ?_) | (refine And.intro ⟨rfl, by omega⟩ ?_) | (refine And.intro ⟨rfl, by omega, by omega⟩ ?_) | (intro _))
   refine wpA_loop (fun k : Nat => ⟨mkV [(3, .one (.ref (p3C t))), (4, .one (.ptr 4 1 0 0)), (5, .one (.ptr 5 1 0 0)), (46, .agg (p3C t)), (47, .one (.lit (.int .i64 k)))], mkH [(4, ⟨1, some ⟨[aC m], 6, true⟩⟩), (5, ⟨1, some ⟨[aC o], 6, true⟩⟩)]⟩) (fun k => k ≤ 3 ∧ ((l3 t).take k).all pvld = true) (fun k => 3 - k) 0 ?_ ?_ ?_
   ·exact weak_lit (by simp [okS, okV, okC, okL, okH, okB, okE, mkV_cons, mkV_nil, mkH_cons, mkH_nil, wsA, ws]; exact .inl (clean_p3 t)) ⟨okB_a (l' := [m]) rfl, okB_a (l' := [o]) rfl, trivial⟩
   ·exact ⟨Nat.zero_le _, rfl⟩
   ·rintro k ⟨hk, hall⟩
    by_cases hlt : k < 3
    ·obtain ⟨p, hpp⟩ : ∃ p, (l3 t).getD k p0 = p := ⟨_, rfl⟩
     have hp0 := getD_get (by rw [hl3]; exact hlt) hpp
     obtain ⟨hp1, hp2⟩ := o2l p (List.mem_of_getElem? hp0)
     have hlt' : ((k : Nat) : Int) < 3 := by omega
     have ek : ((p3C t).drop (k * 10)).take 10 = pC p := by rw [p3_at t k hlt, hpp]
     have el : 10 ≤ 30 - k * 10 := by omega
     have ep : pl p ≤ 100000000 := by omega
     cases hb : pvld p with
     | true =>
      simp only [go_sem, hlt', hv, ek, pC_eq, mk_eta, hb, List.length_drop]
      repeat (first | (refine And.intro (by omega) ?_) | (refine And.intro (by assumption) ?_) | (refine And.intro rfl ?_) | (refine And.intro ⟨rfl, by omega⟩ ?_) | (refine And.intro ⟨rfl, by omega, by omega⟩ ?_) | (intro _))
      exact ⟨k + 1, weak_lit (by simp [okS, okV, okC, okL, okH, okB, okE, mkV_cons, mkV_nil, mkH_cons, mkH_nil, wsA, ws]; exact .inl (clean_p3 t)) ⟨okB_a (l' := [m]) rfl, okB_a (l' := [o]) rfl, trivial⟩, ⟨by omega, all_step hp0 hall hb⟩, by omega⟩
     | false =>
      simp only [go_sem, hlt', hv, ek, pC_eq, mk_eta, hb, List.length_drop]
      repeat (first | (refine And.intro (by omega) ?_) | (refine And.intro (by assumption) ?_) | (refine And.intro rfl ?_) | (refine And.intro ⟨rfl, by omega⟩ ?_) | (refine And.intro ⟨rfl, by omega, by omega⟩ ?_) | (intro _))
      exact hK
    ·have hvl : (l3 t).all pvld = true := by rw [List.take_of_length_le (by rw [hl3]; omega)] at hall; exact hall
     have hlt' : ¬ ((k : Nat) : Int) < 3 := by omega
     have h3 := pl_ok hl3 hvl
     have hch : chkC (l3 t) [m] = 0 := by rw [chk_place h3, if_pos hav]
     have hpl : plchk (l3 t) = 0 := (three_0' h3)
     have hA := fun i => zq_pt o2l hwm o2m i
     have hB := fun i => zq_ptB o2l hwm o2m i
     have hC1 := cen_0 hch
     have hC2 := mov_0 hch
     have hmm := can_av hwm hav
     have o8 : ∀ k, onErr tE k (.one (.lit (.iface tE (.int .i64 8)))) = k 8 := fun k => by
      have e := onErr_e tE k 8
      rw [errV_s tE (by decide)] at e
      exact e
     obtain ⟨e1, he1⟩ : ∃ e1 : Value, errV tE (cenC (l3 t) m) = .one (.lit e1) := ⟨_, rfl⟩
     obtain ⟨e2, he2⟩ : ∃ e2 : Value, errV tE (movC (l3 t) m) = .one (.lit e2) := ⟨_, rfl⟩
     obtain ⟨D1, hD1⟩ : ∃ D, (if cenC (l3 t) m = 0 then cenQ (imgs (l3 t) m) (av m) else d0) = D := ⟨_, rfl⟩
     obtain ⟨D2, hD2⟩ : ∃ D, (if movC (l3 t) m = 0 then movQ (imgsB (l3 t) m) (av m) else d0) = D := ⟨_, rfl⟩
     obtain ⟨d1, hd1⟩ : ∃ d1 : Dy, ((rcan D1.1.1, rcan D1.1.2), (rcan D1.2.1.1, rcan D1.2.1.2), rcan D1.2.2) = d1 := ⟨_, rfl⟩
     obtain ⟨d2, hd2⟩ : ∃ d2 : Dy, ((rcan D2.1.1, rcan D2.1.2), (rcan D2.2.1.1, rcan D2.2.1.2), rcan D2.2.2) = d2 := ⟨_, rfl⟩
     have hq1 : dqC D1 = dC d1 := by rw [← hd1]; rfl
     have hq2 : dqC D2 = dC d2 := by rw [← hd2]; rfl
     simp only [go_sem, hlt', hx, hx2, aC_eq, mk_eta, he1, he2, hD1, hD2]
     repeat (first | (refine And.intro (by omega) ?_) | (refine And.intro (by assumption) ?_) | (refine And.intro rfl ?_) | (refine And.intro ⟨rfl, by omega⟩ ?_) | (refine And.intro ⟨rfl, by omega, by omega⟩ ?_) | (intro _))
     refine wpA_loop (fun k : Nat => ⟨mkV [(3, .one (.ref (p3C t))), (4, .one (.ptr 4 1 0 0)), (5, .one (.ptr 5 1 0 0)), (13, .one (.full [[.lit e1], [.lit e2]])), (71, .one (.full [dC d1, dC d2])), (72, .one (.lit (.int .i64 ((2 : Nat) : Int)))), (73, .one (.lit (.int .i64 k)))], mkH [(4, ⟨1, some ⟨[aC m], 6, true⟩⟩), (5, ⟨1, some ⟨[aC o], 6, true⟩⟩)]⟩) (fun k => k ≤ 2) (fun k => 2 - k) 0 ?_ ?_ ?_
     ·rw [← hq1, ← hq2]
      exact weak_lit (by simp [okS, okV, okC, okL, okH, okB, okE, mkV_cons, mkV_nil, mkH_cons, mkH_nil, wsA, ws, dqC]) ⟨okB_a (l' := [m]) rfl, okB_a (l' := [o]) rfl, trivial⟩
     ·exact Nat.zero_le _
     ·have hok1 : aok t.1 m = true := by
       unfold aok
       rw [List.all_eq_true.1 hvl t.1 (by simp [l3]), hav]; rfl
      have hok2 : aok t.1 o = true := by
       unfold aok
       rw [List.all_eq_true.1 hvl t.1 (by simp [l3]), hao]; rfl
      have ept : pl t.1 ≤ 1000000 := by have := (o2l t.1 (by simp [l3])).2; omega
      have em : al m ≤ 1000000 := by omega
      have eo : al o ≤ 1000000 := by omega
      have e7m : (if aok t.1 m = true then appQ (pv t.1) (av m) else (0, 0)) = appQ (pv t.1) (av m) := if_pos hok1
      have e9m : errV tE (if aok t.1 m = true then 0 else 2) = .one (.lit .nilIface) := by rw [if_pos hok1]; exact errV_0 tE
      have e7o : (if aok t.1 o = true then appQ (pv t.1) (av o) else (0, 0)) = appQ (pv t.1) (av o) := if_pos hok2
      have e9o : errV tE (if aok t.1 o = true then 0 else 2) = .one (.lit .nilIface) := by rw [if_pos hok2]; exact errV_0 tE
      have psc : ∀ d : Dy, dvld d = true → psnC (l3 t) d = 0 := fun d hd => by unfold psnC; rw [if_neg (by omega), if_pos hd]
      intro k hk2
      by_cases hlt2 : k < 2
      ·have hk3' : k = 0 ∨ k = 1 := by omega
       rcases hk3' with rfl | rfl
       ·-- the dyad of the place
        by_cases ka : crV (imgs (l3 t) m) = 0
        ·rw [if_pos ka] at hC1
         rw [hC1, errV_s tE (by decide)] at he1
         simp only [AV.one.injEq, C.lit.injEq] at he1
         subst he1
         simp only [go_sem, t20, t20b, hi, o8, int_8, decide_true, dC]
         refine ⟨⟨by decide, 1, weak_lit (by simp [okS, okV, okC, okL, okH, okB, okE, mkV_cons, mkV_nil, mkH_cons, mkH_nil, wsA, ws, dC]) ⟨okB_a (l' := [m]) rfl, okB_a (l' := [o]) rfl, trivial⟩, by omega, by omega⟩, fun h => absurd trivial h⟩
        ·have hC1' : cenC (l3 t) m = 0 := by rw [hC1, if_neg ka]
         rw [hC1', errV_0] at he1
         simp only [AV.one.injEq, C.lit.injEq] at he1
         subst he1
         rw [if_pos hC1'] at hD1
         subst hD1
         have hps := cen_pass ka
         have hci := zq_ciV (hA 0) (hA 1) (hA 2)
         have hsz := rz_sq (subQ (pt 0 (imgs (l3 t) m)) (ciV (imgs (l3 t) m)))
         have hsb := zq_sub (pt 0 (imgs (l3 t) m)) (ciV (imgs (l3 t) m))
         have hA0 := hA 0
         obtain ⟨c, hcc⟩ : ∃ c : Arc, (rcan (ciV (imgs (l3 t) m)).1, rcan (ciV (imgs (l3 t) m)).2) = c := ⟨_, rfl⟩
         obtain ⟨rr, hrr⟩ : ∃ rr : R, rcan (sqQ (subQ (pt 0 (imgs (l3 t) m)) (ciV (imgs (l3 t) m)))) = rr := ⟨_, rfl⟩
         rw [hcc, hrr] at hps
         have hdd : d1 = (c, m, rr) := by
          rw [← hd1, ← hcc, ← hrr]
          unfold cenQ
          simp only [hmm]
         subst hdd
         have hcw : WLA c := by rw [← hcc]; exact WLA_can _
         have hcd : avld c = true := by rw [← hcc]; exact avld_can _
         have hcl : al c = zq (ciV (imgs (l3 t) m)) := by rw [← hcc]; rfl
         have hwr : WLR rr := by rw [← hrr]; exact WLR_rcan _
         have hrv : vldR rr = true := by rw [← hrr]; exact vld_rcan _
         have hwd : WLD (c, m, rr) := ⟨hcw, hwm, hwr⟩
         have hdl : dl (c, m, rr) ≤ 100000 := by
          rw [← hrr]
          exact dl_3 (by omega) (by omega) (by omega)
         have hdl2 : dl (c, m, rr) ≤ 4294967296 := by omega
         have hp0 := psc (c, m, rr) (by unfold dvld; rw [hcd, hav, hrv]; rfl)
         obtain ⟨S, hS⟩ : ∃ S, sqQ (subQ (appQ (pv t.1) (av m)) (av o)) = S := ⟨_, rfl⟩
         have hwx : WLD (o, m, rcan S) := ⟨hwo, hwm, WLR_rcan _⟩
         have hSz : rz S ≤ 100000 := by
          have z1 := zq_pt o2l hwm o2m 0
          have z2 := zq_sub (appQ (pv t.1) (av m)) (av o)
          have z3 := rz_sq (subQ (appQ (pv t.1) (av m)) (av o))
          have z4 := av_le hwo
          have z5 : pt 0 (imgs (l3 t) m) = appQ (pv t.1) (av m) := rfl
          rw [z5] at z1
          rw [← hS]
          omega
         have hdx : dl (o, m, rcan S) ≤ 100000 := dl_3 (by omega) (by omega) hSz
         have hdx2 : dl (o, m, rcan S) ≤ 4294967296 := by omega
         have hpx := psc (o, m, rcan S) (by unfold dvld; rw [hao, hav, vld_rcan]; rfl)
         have hnx : (o, m, rcan S) ≠ (c, m, rr) → psnB (l3 t) (o, m, rcan S) = false := fun hne => by
          cases hb : psnB (l3 t) (o, m, rcan S) with
          | false => rfl
          | true =>
           exfalso
           apply hne
           rw [← hS] at hb ⊢
           have hav' := cen_not ka hb
           have ho' := av_acan hwo hao hav'
           rw [hcc] at ho'
           subst ho'
           rw [← hrr, psnB_3] at hps
           rw [hps.1, hrr]
         have hza : al (rcan (appQ (pv t.1) (av m)).1, rcan (appQ (pv t.1) (av m)).2) ≤ 100000000 := by
          have z1 := zq_pt o2l hwm o2m 0
          have z5 : pt 0 (imgs (l3 t) m) = appQ (pv t.1) (av m) := rfl
          rw [z5] at z1
          have z6 : al (rcan (appQ (pv t.1) (av m)).1, rcan (appQ (pv t.1) (av m)).2) = zq (appQ (pv t.1) (av m)) := rfl
          omega
         have hzb : al (rcan (subQ (appQ (pv t.1) (av m)) (av o)).1, rcan (subQ (appQ (pv t.1) (av m)) (av o)).2) ≤ 100000000 := by
          have z1 := zq_pt o2l hwm o2m 0
          have z2 := zq_sub (appQ (pv t.1) (av m)) (av o)
          have z4 := av_le hwo
          have z5 : pt 0 (imgs (l3 t) m) = appQ (pv t.1) (av m) := rfl
          rw [z5] at z1
          have z6 : al (rcan (subQ (appQ (pv t.1) (av m)) (av o)).1, rcan (subQ (appQ (pv t.1) (av m)) (av o)).2) = zq (subQ (appQ (pv t.1) (av m)) (av o)) := rfl
          omega
         have hwt1 : WLP t.1 := hwl _ (by simp [l3])
         simp only [go_sem, t20, t20b, hi, ht, he, hy, hl, hq, hd, int_8, decide_true, aC_eq, mk_eta, e7m, e9m, hp0, hps, hpx, errV_0, hS, dC, av_can2, int_0, t01, Bool.true_and, Bool.and_self, Bool.and_true]
         repeat (first | (refine And.intro (by omega) ?_) | (refine And.intro (by assumption) ?_) | (refine And.intro rfl ?_) | (refine And.intro ⟨rfl, by omega⟩ ?_) | (refine And.intro ⟨rfl, by omega, by omega⟩ ?_) | (intro _))
         refine ⟨fun _ => ⟨⟨by decide, by decide⟩, 1, weak_lit (by simp [okS, okV, okC, okL, okH, okB, okE, mkV_cons, mkV_nil, mkH_cons, mkH_nil, wsA, ws, dC]) ⟨okB_a (l' := [m]) rfl, okB_a (l' := [o]) rfl, trivial⟩, by omega, by omega⟩, fun hxn => ?_⟩
         simp only [hnx hxn, Bool.false_eq_true, false_implies, true_and, forall_const]
         repeat (first | (refine And.intro (by omega) ?_) | (refine And.intro (by assumption) ?_) | (refine And.intro rfl ?_) | (refine And.intro ⟨rfl, by omega⟩ ?_) | (refine And.intro ⟨rfl, by omega, by omega⟩ ?_) | (intro _))
         exact ⟨1, weak_lit (by simp [okS, okV, okC, okL, okH, okB, okE, mkV_cons, mkV_nil, mkH_cons, mkH_nil, wsA, ws, dC]) ⟨okB_a (l' := [m]) rfl, okB_a (l' := [o]) rfl, trivial⟩, by omega, by omega⟩
       ·-- the place of the dyad
        by_cases ka : crV (imgsB (l3 t) m) = 0
        ·rw [if_pos ka] at hC2
         rw [hC2, errV_s tE (by decide)] at he2
         simp only [AV.one.injEq, C.lit.injEq] at he2
         subst he2
         simp only [go_sem, t21, t21b, getE_i1, hi, o8, int_8, int_1, decide_true, dC]
         refine ⟨by decide, by decide, by decide, ⟨⟨by decide, by decide⟩, 2, weak_lit (by simp [okS, okV, okC, okL, okH, okB, okE, mkV_cons, mkV_nil, mkH_cons, mkH_nil, wsA, ws, dC]) ⟨okB_a (l' := [m]) rfl, okB_a (l' := [o]) rfl, trivial⟩, by omega, by omega⟩, fun h => absurd trivial h⟩
        ·have hC2' : movC (l3 t) m = 0 := by rw [hC2, if_neg ka]
         rw [hC2', errV_0] at he2
         simp only [AV.one.injEq, C.lit.injEq] at he2
         subst he2
         rw [if_pos hC2'] at hD2
         subst hD2
         have hps := mov_pass ka
         have hci := zq_ciV (hB 0) (hB 1) (hB 2)
         have hsz := rz_sq (subQ (pt 0 (imgsB (l3 t) m)) (ciV (imgsB (l3 t) m)))
         have hsb := zq_sub (pt 0 (imgsB (l3 t) m)) (ciV (imgsB (l3 t) m))
         have hB0 := hB 0
         obtain ⟨c, hcc⟩ : ∃ c : Arc, (rcan (ciV (imgsB (l3 t) m)).1, rcan (ciV (imgsB (l3 t) m)).2) = c := ⟨_, rfl⟩
         obtain ⟨rr, hrr⟩ : ∃ rr : R, rcan (sqQ (subQ (pt 0 (imgsB (l3 t) m)) (ciV (imgsB (l3 t) m)))) = rr := ⟨_, rfl⟩
         rw [hcc, hrr] at hps
         have hdd : d2 = (m, c, rr) := by
          rw [← hd2, ← hcc, ← hrr]
          unfold movQ
          simp only [hmm]
         subst hdd
         have hcw : WLA c := by rw [← hcc]; exact WLA_can _
         have hcd : avld c = true := by rw [← hcc]; exact avld_can _
         have hcl : al c = zq (ciV (imgsB (l3 t) m)) := by rw [← hcc]; rfl
         have hwr : WLR rr := by rw [← hrr]; exact WLR_rcan _
         have hrv : vldR rr = true := by rw [← hrr]; exact vld_rcan _
         have hwd : WLD (m, c, rr) := ⟨hwm, hcw, hwr⟩
         have hdl : dl (m, c, rr) ≤ 100000 := by
          rw [← hrr]
          exact dl_3 (by omega) (by omega) (by omega)
         have hdl2 : dl (m, c, rr) ≤ 4294967296 := by omega
         have hp0 := psc (m, c, rr) (by unfold dvld; rw [hcd, hav, hrv]; rfl)
         obtain ⟨S, hS⟩ : ∃ S, sqQ (subQ (appQ (pv t.1) (av o)) (av m)) = S := ⟨_, rfl⟩
         have hwx : WLD (m, o, rcan S) := ⟨hwm, hwo, WLR_rcan _⟩
         have z1 := zq_pt o2l hwo o2o 0
         have z2 := zq_sub (appQ (pv t.1) (av o)) (av m)
         have z3 := rz_sq (subQ (appQ (pv t.1) (av o)) (av m))
         have z4 := av_le hwm
         have z5 : pt 0 (imgs (l3 t) o) = appQ (pv t.1) (av o) := rfl
         rw [z5] at z1
         have hSz : rz S ≤ 100000 := by
          rw [← hS]
          omega
         have hdx : dl (m, o, rcan S) ≤ 100000 := dl_3 (by omega) (by omega) hSz
         have hdx2 : dl (m, o, rcan S) ≤ 4294967296 := by omega
         have hpx := psc (m, o, rcan S) (by unfold dvld; rw [hao, hav, vld_rcan]; rfl)
         have hnx : (m, o, rcan S) ≠ (m, c, rr) → psnB (l3 t) (m, o, rcan S) = false := fun hne => by
          cases hb : psnB (l3 t) (m, o, rcan S) with
          | false => rfl
          | true =>
           exfalso
           apply hne
           rw [← hS] at hb ⊢
           have hav' := mov_not ka hb
           have ho' := av_acan hwo hao hav'
           rw [hcc] at ho'
           subst ho'
           rw [← hrr, psnB_3] at hps
           rw [hps.1, hrr]
         have hza : al (rcan (appQ (pv t.1) (av o)).1, rcan (appQ (pv t.1) (av o)).2) ≤ 100000000 := by
          have z6 : al (rcan (appQ (pv t.1) (av o)).1, rcan (appQ (pv t.1) (av o)).2) = zq (appQ (pv t.1) (av o)) := rfl
          omega
         have hzb : al (rcan (subQ (appQ (pv t.1) (av o)) (av m)).1, rcan (subQ (appQ (pv t.1) (av o)) (av m)).2) ≤ 100000000 := by
          have z6 : al (rcan (subQ (appQ (pv t.1) (av o)) (av m)).1, rcan (subQ (appQ (pv t.1) (av o)) (av m)).2) = zq (subQ (appQ (pv t.1) (av o)) (av m)) := rfl
          omega
         have hwt1 : WLP t.1 := hwl _ (by simp [l3])
         simp only [go_sem, t21, t21b, getE_i1, hi, ht, he, hy, hl, hq, hd, int_8, decide_true, aC_eq, mk_eta, e7o, e9o, hp0, hps, hpx, errV_0, hS, dC, av_can2, int_1, t10, Bool.true_and, Bool.and_self, Bool.and_true]
         repeat (first | (refine And.intro (by omega) ?_) | (refine And.intro (by assumption) ?_) | (refine And.intro rfl ?_) | (refine And.intro ⟨rfl, by omega⟩ ?_) | (refine And.intro ⟨rfl, by omega, by omega⟩ ?_) | (intro _))
         refine ⟨fun _ => ⟨⟨by decide, by decide⟩, 2, weak_lit (by simp [okS, okV, okC, okL, okH, okB, okE, mkV_cons, mkV_nil, mkH_cons, mkH_nil, wsA, ws, dC]) ⟨okB_a (l' := [m]) rfl, okB_a (l' := [o]) rfl, trivial⟩, by omega, by omega⟩, fun hxn => ?_⟩
         simp only [hnx hxn, Bool.false_eq_true, false_implies, true_and, forall_const]
         repeat (first | (refine And.intro (by omega) ?_) | (refine And.intro (by assumption) ?_) | (refine And.intro rfl ?_) | (refine And.intro ⟨rfl, by omega⟩ ?_) | (refine And.intro ⟨rfl, by omega, by omega⟩ ?_) | (intro _))
         exact ⟨2, weak_lit (by simp [okS, okV, okC, okL, okH, okB, okE, mkV_cons, mkV_nil, mkH_cons, mkH_nil, wsA, ws, dC]) ⟨okB_a (l' := [m]) rfl, okB_a (l' := [o]) rfl, trivial⟩, by omega, by omega⟩
      ·have hk3' : k = 2 := by omega
       subst hk3'
       simp only [go_sem]
       exact hK
end Go.Abs
end
section
set_option linter.unusedVariables false
set_option linter.unusedSimpArgs false
set_option maxRecDepth 100000
namespace Go.Abs
open Go.Num
variable {P : Program} {Γ : Nat → Spec}
def ac_linkworkref01_trim : AC := (.seq (.ops false [.m 2 (.c (.one .emp))])
 (.fg [0] (.seq (.ops false [.m 4 (.c (.one .emp)), .m 5 (.t 0), .u 6 (.app0 1 (.t 4) (.t 5)), .m 3 (.t 6)])
 (.fg [3] (.seq (.block 0 (.loop (.seq (.seq (.ops false [.m 7 (.t 3), .u 8 (.len (.t 7)), .u 9 (.bin .gtr (.t 8) (.i 0)), .m 10 (.t 9), .w 11 10 true (.mv (.t 3)), .w 12 10 true (.mv (.t 3)), .w 13 10 true (.len (.t 12)), .w 14 10 true (.bin .sub (.t 13) (.i 1)), .w 15 10 true (.idx 1 (.t 11) (.t 14)), .w 16 10 true (.ld none 1 false (.t 15)), .w 17 10 true (.bin .eql (.t 16) (.c (.one (.lit (.int .u32 0))))), .u 18 (.pick (.t 10) (.t 17) .fa)])
 (.fg [3, 18] (.cond (.t 18) .skip (.exit 0))))
 (.fg [3] (.block 1 (.ops false [.m 19 (.t 3), .m 20 (.t 3), .u 21 (.len (.t 20)), .u 22 (.bin .sub (.t 21) (.i 1)), .u 23 (.sl 1 (.t 19) none (some (.t 22))), .m 3 (.t 23)]))))))
 (.fg [3] (.seq (.ops false [.m 24 (.t 3), .m 2 (.t 24)])
 .ret)))))))
def ac_linkworkref01_plus (f0 f1 : Nat) : AC := (.seq (.ops false [.m 4 (.c (.one .emp))])
 (.fg [0, 1] (.seq (.ops false [.m 5 (.c (.one .emp))])
 (.fg [0, 1, 5] (.seq (.ops false [.m 6 (.c (.one (.lit (.int .u64 0))))])
 (.fg [0, 1, 5, 6] (.seq (.seq (.ops false [.m 9 (.t 0), .u 10 (.len (.t 9)), .m 11 (.t 1), .u 12 (.len (.t 11)), .u 13 (.max [(.t 10), (.t 12)]), .u 14 (.bin .add (.t 13) (.i 1)), .m 15 (.i 0)])
 (.fg [0, 1, 5, 6, 14, 15] (.block 0 (.loop (.seq (.ops false [.u 16 (.bin .lss (.t 15) (.t 14))])
 (.fg [0, 1, 5, 6, 14, 15, 16] (.seq (.cond (.t 16) .skip (.exit 0))
 (.fg [0, 1, 5, 6, 14, 15] (.seq (.block 1 (.seq (.ops false [.m 17 (.t 15), .m 7 (.t 17)])
 (.fg [0, 1, 5, 6, 7, 14, 15] (.seq (.ops false [.m 18 (.t 0), .m 19 (.t 7), .u 20 (.call f0 [(.t 18), (.t 19)]), .m 21 (.t 1), .m 22 (.t 7), .u 23 (.call f0 [(.t 21), (.t 22)]), .u 24 (.bin .add (.t 20) (.t 23)), .m 25 (.t 6), .u 26 (.bin .add (.t 24) (.t 25)), .m 8 (.t 26)])
 (.fg [0, 1, 5, 8, 14, 15] (.ops false [.m 27 (.t 5), .m 28 (.t 8), .u 29 (.conv .u32 (.t 28)), .u 30 (.row 1 [[.x 1 (.t 29)]]), .u 31 (.app 1 (.t 27) (.t 30)), .m 32 (.t 8), .u 33 (.bin .shr (.t 32) (.c (.one (.lit (.int .u64 32))))), .m 5 (.t 31), .m 6 (.t 33)]))))))
 (.fg [0, 1, 5, 6, 14, 15] (.ops false [.u 34 (.bin .add (.t 15) (.i 1)), .m 15 (.t 34)])))))))))))
 (.fg [5] (.seq (.ops false [.m 35 (.t 5), .u 36 (.callf f1 [(.t 35)]), .m 4 (.t 36)])
 .ret)))))))))
def ac_linkworkref01_minus (f0 f1 : Nat) : AC := (.seq (.ops false [.m 4 (.c (.one .emp))])
 (.fg [0, 1] (.seq (.ops false [.m 5 (.c (.one .emp))])
 (.fg [0, 1, 5] (.seq (.ops false [.m 6 (.c (.one (.lit (.int .u64 0))))])
 (.fg [0, 1, 5, 6] (.seq (.seq (.ops false [.m 9 (.t 0), .u 10 (.len (.t 9)), .m 11 (.i 0)])
 (.fg [0, 1, 5, 6, 10, 11] (.block 0 (.loop (.seq (.ops false [.u 12 (.bin .lss (.t 11) (.t 10))])
 (.fg [0, 1, 5, 6, 10, 11, 12] (.seq (.cond (.t 12) .skip (.exit 0))
 (.fg [0, 1, 5, 6, 10, 11] (.seq (.block 1 (.seq (.ops false [.m 13 (.t 11), .m 7 (.t 13)])
 (.fg [0, 1, 5, 6, 7, 10, 11] (.seq (.ops false [.m 14 (.t 0), .m 15 (.t 7), .u 16 (.call f0 [(.t 14), (.t 15)]), .u 17 (.bin .add (.c (.one (.lit (.int .u64 4294967296)))) (.t 16)), .m 18 (.t 1), .m 19 (.t 7), .u 20 (.call f0 [(.t 18), (.t 19)]), .u 21 (.bin .sub (.t 17) (.t 20)), .m 22 (.t 6), .u 23 (.bin .sub (.t 21) (.t 22)), .m 8 (.t 23)])
 (.fg [0, 1, 5, 8, 10, 11] (.ops false [.m 24 (.t 5), .m 25 (.t 8), .u 26 (.conv .u32 (.t 25)), .u 27 (.row 1 [[.x 1 (.t 26)]]), .u 28 (.app 1 (.t 24) (.t 27)), .m 29 (.t 8), .u 30 (.bin .shr (.t 29) (.c (.one (.lit (.int .u64 32))))), .u 31 (.bin .sub (.c (.one (.lit (.int .u64 1)))) (.t 30)), .m 5 (.t 28), .m 6 (.t 31)]))))))
 (.fg [0, 1, 5, 6, 10, 11] (.ops false [.u 32 (.bin .add (.t 11) (.i 1)), .m 11 (.t 32)])))))))))))
 (.fg [5] (.seq (.ops false [.m 33 (.t 5), .u 34 (.callf f1 [(.t 33)]), .m 4 (.t 34)])
 .ret)))))))))
def ac_linkworkref01_compare (f0 : Nat) : AC := (.seq (.ops false [.m 4 (.i 0)])
 (.fg [0, 1] (.seq (.seq (.ops false [.m 6 (.t 0), .u 7 (.len (.t 6)), .m 8 (.t 1), .u 9 (.len (.t 8)), .u 10 (.max [(.t 7), (.t 9)]), .u 11 (.bin .sub (.t 10) (.i 1)), .m 5 (.t 11)])
 (.fg [0, 1, 5] (.block 0 (.loop (.seq (.seq (.ops false [.m 12 (.t 5), .u 13 (.bin .geq (.t 12) (.i 0))])
 (.fg [0, 1, 5, 13] (.cond (.t 13) .skip (.exit 0))))
 (.fg [0, 1, 5] (.seq (.block 1 (.seq (.ops false [.m 16 (.t 0), .m 17 (.t 5), .u 18 (.call f0 [(.t 16), (.t 17)]), .m 19 (.t 1), .m 20 (.t 5), .u 21 (.call f0 [(.t 19), (.t 20)]), .u 22 (.bin .neq (.t 18) (.t 21))])
 (.fg [0, 1, 5, 22] (.cond (.t 22) (.seq (.seq (.ops false [.m 23 (.t 0), .m 24 (.t 5), .u 25 (.call f0 [(.t 23), (.t 24)]), .m 26 (.t 1), .m 27 (.t 5), .u 28 (.call f0 [(.t 26), (.t 27)]), .u 29 (.bin .lss (.t 25) (.t 28))])
 (.fg [29] (.cond (.t 29) (.seq (.ops false [.m 4 (.i (-1))])
 .ret) .skip)))
 (.fg [] (.seq (.ops false [.m 4 (.i 1)])
 .ret))) .skip))))
 (.fg [0, 1, 5] (.ops false [.m 14 (.t 5), .u 15 (.bin .sub (.t 14) (.i 1)), .m 5 (.t 15)])))))))))
 (.fg [] (.seq (.ops false [.m 4 (.i 0)])
 .ret)))))
def ac_linkworkref01_bits : AC := (.seq (.ops false [.m 2 (.i 0)])
 (.fg [0] (.seq (.seq (.ops false [.m 5 (.t 0), .u 6 (.len (.t 5)), .u 7 (.bin .eql (.t 6) (.i 0))])
 (.fg [0, 7] (.cond (.t 7) (.seq (.ops false [.m 2 (.i 0)])
 .ret) .skip)))
 (.fg [0] (.seq (.ops false [.m 8 (.t 0), .u 9 (.len (.t 8)), .u 10 (.bin .sub (.t 9) (.i 1)), .u 11 (.bin .mul (.i 32) (.t 10)), .m 3 (.t 11)])
 (.fg [0, 3] (.seq (.seq (.ops false [.m 12 (.t 0), .m 13 (.t 0), .u 14 (.len (.t 13)), .u 15 (.bin .sub (.t 14) (.i 1)), .u 16 (.idx 1 (.t 12) (.t 15)), .u 17 (.ld none 1 false (.t 16)), .m 4 (.t 17)])
 (.fg [3, 4] (.block 0 (.loop (.seq (.seq (.ops false [.m 18 (.t 4), .u 19 (.bin .gtr (.t 18) (.c (.one (.lit (.int .u32 0)))))])
 (.fg [3, 4, 19] (.cond (.t 19) .skip (.exit 0))))
 (.fg [3, 4] (.seq (.block 1 (.ops false [.m 22 (.t 3), .u 23 (.bin .add (.t 22) (.i 1)), .m 3 (.t 23)]))
 (.fg [3, 4] (.ops false [.m 20 (.t 4), .u 21 (.bin .shr (.t 20) (.c (.one (.lit (.int .u64 1))))), .m 4 (.t 21)])))))))))
 (.fg [3] (.seq (.ops false [.m 24 (.t 3), .m 2 (.t 24)])
 .ret)))))))))
def ac_linkworkref01_times (f0 : Nat) : AC := (.seq (.ops false [.m 4 (.c (.one .emp))])
 (.fg [0, 1] (.seq (.ops false [.m 10 (.t 0), .u 11 (.len (.t 10)), .m 12 (.t 1), .u 13 (.len (.t 12)), .u 14 (.bin .add (.t 11) (.t 13)), .u 15 (.mk 1 [(.lit (.int .u32 0))] (.t 14) (.t 14)), .m 5 (.t 15)])
 (.fg [0, 1, 5] (.seq (.seq (.ops false [.m 16 (.t 0), .u 17 (.len (.t 16)), .m 18 (.i 0)])
 (.fg [0, 1, 5, 17, 18] (.block 0 (.loop (.seq (.ops false [.u 19 (.bin .lss (.t 18) (.t 17))])
 (.fg [0, 1, 5, 17, 18, 19] (.seq (.cond (.t 19) .skip (.exit 0))
 (.fg [0, 1, 5, 17, 18] (.seq (.block 1 (.seq (.ops false [.m 20 (.t 18), .m 6 (.t 20)])
 (.fg [0, 1, 5, 6, 17, 18] (.seq (.ops false [.m 7 (.c (.one (.lit (.int .u64 0))))])
 (.fg [0, 1, 5, 6, 7, 17, 18] (.seq (.seq (.ops false [.m 21 (.t 1), .u 22 (.len (.t 21)), .m 23 (.i 0)])
 (.fg [0, 1, 5, 6, 7, 17, 18, 22, 23] (.block 2 (.loop (.seq (.ops false [.u 24 (.bin .lss (.t 23) (.t 22))])
 (.fg [0, 1, 5, 6, 7, 17, 18, 22, 23, 24] (.seq (.cond (.t 24) .skip (.exit 2))
 (.fg [0, 1, 5, 6, 7, 17, 18, 22, 23] (.seq (.block 3 (.seq (.ops false [.m 25 (.t 23), .m 8 (.t 25)])
 (.fg [0, 1, 5, 6, 7, 8, 17, 18, 22, 23] (.seq (.ops true [.m 26 (.t 0), .m 27 (.t 6), .u 28 (.idx 1 (.t 26) (.t 27)), .u 29 (.ld none 1 false (.t 28)), .u 30 (.conv .u64 (.t 29)), .m 31 (.t 1), .m 32 (.t 8), .u 33 (.idx 1 (.t 31) (.t 32)), .u 34 (.ld none 1 false (.t 33)), .u 35 (.conv .u64 (.t 34)), .u 36 (.bin .mul (.t 30) (.t 35)), .m 37 (.t 5), .m 38 (.t 6), .m 39 (.t 8), .u 40 (.bin .add (.t 38) (.t 39)), .u 41 (.idx 1 (.t 37) (.t 40)), .u 42 (.ld none 1 false (.t 41)), .u 43 (.conv .u64 (.t 42)), .u 44 (.bin .add (.t 36) (.t 43)), .m 45 (.t 7), .u 46 (.bin .add (.t 44) (.t 45)), .m 9 (.t 46)])
 (.fg [0, 1, 5, 6, 8, 9, 17, 18, 22, 23] (.ops false [.m 47 (.t 5), .m 48 (.t 6), .m 49 (.t 8), .u 50 (.bin .add (.t 48) (.t 49)), .m 51 (.t 9), .u 52 (.conv .u32 (.t 51)), .m 53 (.t 9), .u 54 (.bin .shr (.t 53) (.c (.one (.lit (.int .u64 32))))), .u 55 (.idx 1 (.t 47) (.t 50)), .n (.st none 1 (.t 55) (.t 52)), .m 7 (.t 54)]))))))
 (.fg [0, 1, 5, 6, 7, 17, 18, 22, 23] (.ops false [.u 56 (.bin .add (.t 23) (.i 1)), .m 23 (.t 56)])))))))))))
 (.fg [0, 1, 5, 6, 7, 17, 18] (.ops false [.m 57 (.t 5), .m 58 (.t 6), .m 59 (.t 1), .u 60 (.len (.t 59)), .u 61 (.bin .add (.t 58) (.t 60)), .m 62 (.t 7), .u 63 (.conv .u32 (.t 62)), .u 64 (.idx 1 (.t 57) (.t 61)), .n (.st none 1 (.t 64) (.t 63))]))))))))
 (.fg [0, 1, 5, 17, 18] (.ops false [.u 65 (.bin .add (.t 18) (.i 1)), .m 18 (.t 65)])))))))))))
 (.fg [5] (.seq (.ops false [.m 66 (.t 5), .u 67 (.callf f0 [(.t 66)]), .m 4 (.t 67)])
 .ret)))))))
theorem tr01_sound (hΓ : Holds P Γ) {f : Nat} (hc : check P f = some (25, ac_linkworkref01_trim.strip, [.tmp 2])) : Sound P f (.fresh 1 tr01_G) := by
 refine sound_fresh hc tr01_good hΓ (fun args K hcl hfi hG => ?_)
 match args, hG with
 | [a], hG =>
  obtain ⟨l, ha, hl, hlen, hK⟩ := hG
  refine ⟨by simp, ?_⟩
  rcases ha with rfl | rfl | ⟨rfl, h0⟩
  ·simp only [go_sem, ac_linkworkref01_trim, ws]
   refine ⟨hlen, ?_⟩
   refine wpA_loop (fun n : Nat => ⟨mkV [(3, .one (.own 6 1 1 0 n))], mkH [(6, ⟨1, some ⟨l.map wc, 1, true⟩⟩)]⟩) (fun n => n ≤ l.length ∧ val (l.take n) = val l) id l.length ?_ ?_ ?_
   ·first | exact weak_lit (by simp [okS, okV, okC, okL, okH, okB, okE, mkV_cons, mkV_nil, mkH_cons, mkH_nil, wsA, ws]) (okH_1 rfl) | (subst h0; exact weak_lit (by simp [okS, okV, okC, okL, okH, okB, okE, mkV_cons, mkV_nil, mkH_cons, mkH_nil, wsA, ws]) (okH_1 (l := []) rfl))
   ·simp
   ·rintro n ⟨hn, ht⟩
    simp only [go_sem]
    refine fun hm => ⟨fun h => ?_, fun h => ?_⟩
    ·rw [show ((n : Int) - 1).toNat = n - 1 by omega]
     refine fun _ => ⟨by omega, by omega, by omega, fun h0 => fun _ => ⟨by omega, by omega, by omega, n - 1, weak_lit (by simp [okS, okV, okC, okL, okH, okB, okE, mkV_cons, mkV_nil, mkH_cons, mkH_nil, wsA, ws]) (okH_1 rfl), ⟨by omega, ?_⟩, ?_⟩, fun h0 => ?_⟩
     ·have := take_succ l (n - 1)
      rw [show n - 1 + 1 = n by omega, h0, Nat.mul_zero, Nat.add_zero] at this
      rw [← this]; exact ht
     ·simp only [id]; omega
     ·have := digs_val (WL_take hl n) (NZ_take h hn h0)
      rw [ht] at this
      rw [this] at hK
      exact ⟨hn, hK⟩
    ·have h1 : n = 0 := by omega
     subst h1
     have : val l = 0 := by rw [← ht]; simp [val]
     rw [this, digs_zero] at hK
     exact ⟨by omega, hK⟩
  ·simp only [go_sem, ac_linkworkref01_trim, ws]
   refine ⟨hlen, ?_⟩
   refine wpA_loop (fun n : Nat => ⟨mkV [(3, .one (.own 6 1 1 0 n))], mkH [(6, ⟨1, some ⟨l.map wc, 1, true⟩⟩)]⟩) (fun n => n ≤ l.length ∧ val (l.take n) = val l) id l.length ?_ ?_ ?_
   ·first | exact weak_lit (by simp [okS, okV, okC, okL, okH, okB, okE, mkV_cons, mkV_nil, mkH_cons, mkH_nil, wsA, ws]) (okH_1 rfl) | (subst h0; exact weak_lit (by simp [okS, okV, okC, okL, okH, okB, okE, mkV_cons, mkV_nil, mkH_cons, mkH_nil, wsA, ws]) (okH_1 (l := []) rfl))
   ·simp
   ·rintro n ⟨hn, ht⟩
    simp only [go_sem]
    refine fun hm => ⟨fun h => ?_, fun h => ?_⟩
    ·rw [show ((n : Int) - 1).toNat = n - 1 by omega]
     refine fun _ => ⟨by omega, by omega, by omega, fun h0 => fun _ => ⟨by omega, by omega, by omega, n - 1, weak_lit (by simp [okS, okV, okC, okL, okH, okB, okE, mkV_cons, mkV_nil, mkH_cons, mkH_nil, wsA, ws]) (okH_1 rfl), ⟨by omega, ?_⟩, ?_⟩, fun h0 => ?_⟩
     ·have := take_succ l (n - 1)
      rw [show n - 1 + 1 = n by omega, h0, Nat.mul_zero, Nat.add_zero] at this
      rw [← this]; exact ht
     ·simp only [id]; omega
     ·have := digs_val (WL_take hl n) (NZ_take h hn h0)
      rw [ht] at this
      rw [this] at hK
      exact ⟨hn, hK⟩
    ·have h1 : n = 0 := by omega
     subst h1
     have : val l = 0 := by rw [← ht]; simp [val]
     rw [this, digs_zero] at hK
     exact ⟨by omega, hK⟩
  ·simp only [go_sem, ac_linkworkref01_trim, ws]
   refine ⟨by simp, ?_⟩
   refine wpA_loop (fun n : Nat => ⟨mkV [(3, .one (.own 6 1 1 0 n))], mkH [(6, ⟨1, some ⟨l.map wc, 1, true⟩⟩)]⟩) (fun n => n ≤ l.length ∧ val (l.take n) = val l) id l.length ?_ ?_ ?_
   ·first | exact weak_lit (by simp [okS, okV, okC, okL, okH, okB, okE, mkV_cons, mkV_nil, mkH_cons, mkH_nil, wsA, ws]) (okH_1 rfl) | (subst h0; exact weak_lit (by simp [okS, okV, okC, okL, okH, okB, okE, mkV_cons, mkV_nil, mkH_cons, mkH_nil, wsA, ws]) (okH_1 (l := []) rfl))
   ·simp
   ·rintro n ⟨hn, ht⟩
    simp only [go_sem]
    refine fun hm => ⟨fun h => ?_, fun h => ?_⟩
    ·rw [show ((n : Int) - 1).toNat = n - 1 by omega]
     refine fun _ => ⟨by omega, by omega, by omega, fun h0 => fun _ => ⟨by omega, by omega, by omega, n - 1, weak_lit (by simp [okS, okV, okC, okL, okH, okB, okE, mkV_cons, mkV_nil, mkH_cons, mkH_nil, wsA, ws]) (okH_1 rfl), ⟨by omega, ?_⟩, ?_⟩, fun h0 => ?_⟩
     ·have := take_succ l (n - 1)
      rw [show n - 1 + 1 = n by omega, h0, Nat.mul_zero, Nat.add_zero] at this
      rw [← this]; exact ht
     ·simp only [id]; omega
     ·have := digs_val (WL_take hl n) (NZ_take h hn h0)
      rw [ht] at this
      rw [this] at hK
      exact ⟨hn, hK⟩
    ·have h1 : n = 0 := by omega
     subst h1
     have : val l = 0 := by rw [← ht]; simp [val]
     rw [this, digs_zero] at hK
     exact ⟨by omega, hK⟩
theorem plus01_sound (hΓ : Holds P Γ) {f fw ft : Nat} (hw : Γ fw = .dat true word_G) (ht : Γ ft = .fresh 1 tr01_G) (hc : check P f = some (37, (ac_linkworkref01_plus fw ft).strip, [.tmp 4])) : Sound P f (.dat false plus_G) := by
 refine sound_dat hc plus_good hΓ (fun args K hcl hfi hG => ?_)
 match args, hG with
 | [a, b], hG =>
  obtain ⟨x, rfl, hx, y, rfl, hy, hxl, hyl, hK⟩ := hG
  refine ⟨by simp, ?_⟩
  simp only [go_sem, ac_linkworkref01_plus, hw, ht]
  intro h1 h2
  refine ⟨by omega, ?_⟩
  generalize hN : max x.length y.length + 1 = N
  refine wpA_loop (fun p : List Nat × Nat => match p.1 with
    | [] => ⟨mkV [(0, wsA x), (1, wsA y), (5, .one .emp), (6, .one (.lit (.int .u64 p.2))), (14, .one (.lit (.int .i64 N))), (15, .one (.lit (.int .i64 0)))], mkH []⟩
    | a :: r => ⟨mkV [(0, wsA x), (1, wsA y), (5, .one (.own 31 1 1 0 (r.length + 1))), (6, .one (.lit (.int .u64 p.2))), (14, .one (.lit (.int .i64 N))), (15, .one (.lit (.int .i64 (r.length + 1 : Nat))))], mkH [(31, ⟨1, some ⟨(a :: r).map wc, 1, true⟩⟩)]⟩)
   (fun p => p.1.length ≤ N ∧ WL p.1 ∧ p.2 ≤ 1 ∧ val p.1 + 4294967296 ^ p.1.length * p.2 = val (x.take p.1.length) + val (y.take p.1.length)) (fun p => N - p.1.length) ([], 0) ?_ ?_ ?_
  ·exact weak_lit (by simp [okS, okV, okC, okL, okH, okB, okE, mkV_cons, mkV_nil, mkH_cons, mkH_nil, wsA, ws]) trivial
  ·simp [WL_nil, val]
  ·rintro ⟨o, c⟩ ⟨hoN, ho, hc1, hval⟩
   simp only at hoN ho hc1 hval
   cases o with
   | nil =>
    simp only [go_sem, hw, ht]
    refine ⟨fun hlt => ?_, fun hge => by omega⟩
    have g1 := WL_getD hx 0
    have g2 := WL_getD hy 0
    rw [Nat.mod_eq_of_lt (show x.getD 0 0 + y.getD 0 0 < 18446744073709551616 by omega), Nat.mod_eq_of_lt (show x.getD 0 0 + y.getD 0 0 + c < 18446744073709551616 by omega)]
    generalize hs : x.getD 0 0 + y.getD 0 0 + c = s
    refine ⟨hx, by omega, hy, by omega, by simp, by decide, by decide, ([s % 4294967296], s / 4294967296), weak_lit (by simp [okS, okV, okC, okL, okH, okB, okE, mkV_cons, mkV_nil, mkH_cons, mkH_nil, wsA, ws]) (okH_1 (l := [s % 4294967296]) rfl), ⟨by simp; omega, WL_cons.2 ⟨Nat.mod_lt _ (by omega), WL_nil⟩, by simp only; omega, ?_⟩, by simp; omega⟩
    have t1 := take_succ x 0
    have t2 := take_succ y 0
    simp only [List.length_cons, List.length_nil, Nat.zero_add, List.take_zero, val_nil, val_cons, Nat.pow_zero, Nat.pow_one, Nat.mul_zero] at t1 t2 hval ⊢
    omega
   | cons a r =>
    simp only [go_sem, hw, ht]
    refine ⟨fun hlt => ?_, fun hge => ?_⟩
    ·have g1 := WL_getD hx (r.length + 1)
     have g2 := WL_getD hy (r.length + 1)
     rw [Nat.mod_eq_of_lt (show x.getD (r.length + 1) 0 + y.getD (r.length + 1) 0 < 18446744073709551616 by omega), Nat.mod_eq_of_lt (show x.getD (r.length + 1) 0 + y.getD (r.length + 1) 0 + c < 18446744073709551616 by omega)]
     generalize hs : x.getD (r.length + 1) 0 + y.getD (r.length + 1) 0 + c = s
     refine ⟨hx, hy, by simp, by omega, by decide, by omega, (a :: (r ++ [s % 4294967296]), s / 4294967296), weak_lit (by simp [okS, okV, okC, okL, okH, okB, okE, mkV_cons, mkV_nil, mkH_cons, mkH_nil, wsA, ws]) (okH_1' (l' := a :: (r ++ [s % 4294967296])) (by simp [wc])), ⟨by simp; omega, ?_, by simp only; omega, ?_⟩, by simp; omega⟩
     ·exact WL_append (a := a :: r) |>.2 ⟨ho, WL_cons.2 ⟨Nat.mod_lt _ (by omega), WL_nil⟩⟩
     ·have t1 := take_succ x (r.length + 1)
      have t2 := take_succ y (r.length + 1)
      have e : a :: (r ++ [s % 4294967296]) = (a :: r) ++ [s % 4294967296] := rfl
      simp only [e, List.length_append, List.length_cons, List.length_nil, Nat.zero_add, val_append, t1, t2]
      simp only [List.length_cons] at hval
      rw [show val [s % 4294967296] = s % 4294967296 from by simp [val], Nat.pow_succ 4294967296 (r.length + 1)]
      exact plus_aux hval (by rw [Nat.mod_add_div, hs])
    ·have e : r.length + 1 = N := by simp only [List.length_cons] at hoN; omega
     have hv : val (a :: r) = val x + val y := by
      rw [List.length_cons, e, take_all (by omega), take_all (by omega)] at hval
      exact sum_fits hx hy (by omega) (by omega) (by omega) hval
     refine (onWx_e _ (a :: r)).mpr ⟨ho, by simp only [List.length_cons]; omega, ?_⟩
     rw [hv]; exact hK
theorem minus01_sound (hΓ : Holds P Γ) {f fw ft : Nat} (hw : Γ fw = .dat true word_G) (ht : Γ ft = .fresh 1 tr01_G) (hc : check P f = some (35, (ac_linkworkref01_minus fw ft).strip, [.tmp 4])) : Sound P f (.dat false less_G) := by
 refine sound_dat hc less_good hΓ (fun args K hcl hfi hG => ?_)
 match args, hG with
 | [a, b], hG =>
  obtain ⟨x, rfl, hx, y, rfl, hy, hxl, hle, hK⟩ := hG
  refine ⟨by simp, ?_⟩
  simp only [go_sem, ac_linkworkref01_minus, hw, ht]
  intro h1
  generalize hN : x.length = N at *
  refine wpA_loop (fun p : List Nat × Nat => match p.1 with
    | [] => ⟨mkV [(0, wsA x), (1, wsA y), (5, .one .emp), (6, .one (.lit (.int .u64 p.2))), (10, .one (.lit (.int .i64 N))), (11, .one (.lit (.int .i64 0)))], mkH []⟩
    | a :: r => ⟨mkV [(0, wsA x), (1, wsA y), (5, .one (.own 28 1 1 0 (r.length + 1))), (6, .one (.lit (.int .u64 p.2))), (10, .one (.lit (.int .i64 N))), (11, .one (.lit (.int .i64 (r.length + 1 : Nat))))], mkH [(28, ⟨1, some ⟨(a :: r).map wc, 1, true⟩⟩)]⟩)
   (fun p => p.1.length ≤ N ∧ WL p.1 ∧ p.2 ≤ 1 ∧ val p.1 + val (y.take p.1.length) = val (x.take p.1.length) + 4294967296 ^ p.1.length * p.2) (fun p => N - p.1.length) ([], 0) ?_ ?_ ?_
  ·exact weak_lit (by simp [okS, okV, okC, okL, okH, okB, okE, mkV_cons, mkV_nil, mkH_cons, mkH_nil, wsA, ws]) trivial
  ·simp [WL_nil, val]
  ·rintro ⟨o, c⟩ ⟨hoN, ho, hc1, hval⟩
   simp only at hoN ho hc1 hval
   cases o with
   | nil =>
    have g1 := WL_getD hx 0
    have g2 := WL_getD hy 0
    obtain ⟨s, e1, e2, e3, e4⟩ := minus_e g1 g2 hc1
    simp only [go_sem, hw, ht, e1, e2]
    refine ⟨fun hlt => ?_, fun hge => ?_⟩
    ·refine ⟨hx, by omega, hy, by omega, by simp, ⟨by omega, by decide⟩, by decide, ([s % 4294967296], 1 - s / 4294967296), weak_lit (by simp [okS, okV, okC, okL, okH, okB, okE, mkV_cons, mkV_nil, mkH_cons, mkH_nil, wsA, ws, e2]) (okH_1' (l' := [s % 4294967296]) (by simp [wc])), ⟨by simp; omega, WL_cons.2 ⟨Nat.mod_lt _ (by omega), WL_nil⟩, e4, ?_⟩, by simp; omega⟩
     have t1 := take_succ x 0
     have t2 := take_succ y 0
     simp only [List.length_cons, List.length_nil, Nat.zero_add, List.take_zero, val_nil, val_cons, Nat.pow_zero, Nat.pow_one, Nat.mul_zero] at t1 t2 hval ⊢
     omega
    ·have hx0 : x = [] := List.eq_nil_of_length_eq_zero (by omega)
     have : val x - val y = val [] := by rw [hx0]; simp [val]
     rw [← this]; exact hK
   | cons a r =>
    have g1 := WL_getD hx (r.length + 1)
    have g2 := WL_getD hy (r.length + 1)
    obtain ⟨s, e1, e2, e3, e4⟩ := minus_e g1 g2 hc1
    simp only [go_sem, hw, ht, e1, e2]
    refine ⟨fun hlt => ?_, fun hge => ?_⟩
    ·refine ⟨hx, hy, by simp, by omega, ⟨by omega, by decide⟩, by omega, (a :: (r ++ [s % 4294967296]), 1 - s / 4294967296), weak_lit (by simp [okS, okV, okC, okL, okH, okB, okE, mkV_cons, mkV_nil, mkH_cons, mkH_nil, wsA, ws, e2]) (okH_1' (l' := a :: (r ++ [s % 4294967296])) (by simp [wc])), ⟨by simp; omega, ?_, e4, ?_⟩, by simp; omega⟩
     ·exact WL_append (a := a :: r) |>.2 ⟨ho, WL_cons.2 ⟨Nat.mod_lt _ (by omega), WL_nil⟩⟩
     ·have e : a :: (r ++ [s % 4294967296]) = (a :: r) ++ [s % 4294967296] := rfl
      simp only [List.length_cons] at hval
      simp only [e, List.length_append, List.length_cons, List.length_nil, Nat.zero_add, take_succ x (r.length + 1), take_succ y (r.length + 1), val_append, val_cons (s % 4294967296), val_nil, Nat.mul_zero, Nat.add_zero, Nat.pow_succ 4294967296 (r.length + 1)]
      exact less_aux hval e3
    ·have e : (a :: r).length = N := by simp only [List.length_cons] at hoN ⊢; omega
     have hv := less_end ho hx (by omega) hle hval
     refine (onWx_e _ (a :: r)).mpr ⟨ho, by omega, ?_⟩
     rw [hv]; exact hK
theorem cmp01_sound (hΓ : Holds P Γ) {f fw : Nat} (hw : Γ fw = .dat true word_G) (hc : check P f = some (30, (ac_linkworkref01_compare fw).strip, [.tmp 4])) : Sound P f (.dat true cmp01_G) := by
 refine sound_dat hc cmp01_good hΓ (fun args K hcl hfi hG => ?_)
 match args, hG with
 | [a, b], hG =>
  obtain ⟨x, rfl, hx, y, rfl, hy, hK⟩ := hG
  refine ⟨by simp, ?_⟩
  simp only [go_sem, ac_linkworkref01_compare, hw]
  intro h1 h2
  refine ⟨⟨by omega, by omega⟩, ?_⟩
  refine wpA_loop (fun n : Nat => ⟨mkV [(0, wsA x), (1, wsA y), (5, .one (.lit (.int .i64 ((n : Int) - 1))))], mkH []⟩) (fun n => n ≤ max x.length y.length ∧ val (x.drop n) = val (y.drop n)) id (max x.length y.length) ?_ ?_ ?_
  ·exact weak_lit (by simp [okS, okV, okC, okL, okH, okB, okE, mkV_cons, mkV_nil, mkH_cons, mkH_nil, wsA, ws]) trivial
  ·refine ⟨Nat.le_refl _, ?_⟩
   rw [List.drop_of_length_le (by omega), List.drop_of_length_le (by omega)]
  ·rintro n ⟨hn, hd⟩
   simp only [go_sem, hw]
   refine ⟨fun h => ?_, fun h => ?_⟩
   ·have e : ((n : Int) - 1).toNat = n - 1 := by omega
    have e1 := val_drop x (n - 1)
    have e2 := val_drop y (n - 1)
    have e3 : n - 1 + 1 = n := by omega
    rw [e3] at e1 e2
    rw [e]
    refine ⟨hx, h, hy, h, fun he => ⟨by omega, n - 1, weak_lit (by simp [okS, okV, okC, okL, okH, okB, okE, mkV_cons, mkV_nil, mkH_cons, mkH_nil, wsA, ws]; omega) trivial, ⟨by omega, by rw [e1, e2, hd, he]⟩, by simp only [id]; omega⟩, fun he => ⟨hx, h, hy, h, fun hlt => ?_, fun hge => ?_⟩⟩
    ·rw [ordN_lt (cmp_at hx (by rw [e3]; exact hd) hlt)] at hK; exact hK
    ·rw [ordN_gt (cmp_at (m := n - 1) hy (by rw [e3]; exact hd.symm) (by omega))] at hK; exact hK
   ·have : n = 0 := by omega
    subst this
    have : val x = val y := hd
    rw [this, ordN_eq] at hK; exact hK
theorem bits01_sound (hΓ : Holds P Γ) {f : Nat} (hc : check P f = some (25, ac_linkworkref01_bits.strip, [.tmp 2])) : Sound P f (.dat true bits01_G) := by
 refine sound_dat hc bits01_good hΓ (fun args K hcl hfi hG => ?_)
 match args, hG with
 | [a], hG =>
  obtain ⟨x, rfl, hx, hxl, hK⟩ := hG
  refine ⟨by simp, ?_⟩
  simp only [go_sem, ac_linkworkref01_bits]
  intro h1
  refine ⟨fun h => ?_, fun h _ => ⟨by omega, by omega, fun _ => ⟨by omega, by omega, by omega, ?_⟩⟩⟩
  ·rw [if_pos h] at hK; exact hK
  rw [if_neg h] at hK
  have e : ((x.length : Int) - 1).toNat = x.length - 1 := by omega
  rw [e]
  have hb := WL_getD hx (x.length - 1)
  generalize x.getD (x.length - 1) 0 = w at *
  have hb32 : bln w ≤ 32 := bln_le (by omega)
  refine wpA_loop (fun p : Nat × Nat => ⟨mkV [(3, .one (.lit (.int .i64 (32 * ((x.length : Int) - 1) + p.1)))), (4, .one (.lit (.int .u32 p.2)))], mkH []⟩) (fun p => p.2 < 4294967296 ∧ p.1 + bln p.2 = bln w) (fun p => p.2) (0, w) ?_ ?_ ?_
  ·exact weak_lit (by simp [okS, okV, okC, okL, okH, okB, okE, mkV_cons, mkV_nil, mkH_cons, mkH_nil, wsA, ws]) trivial
  ·exact ⟨hb, by simp⟩
  ·rintro ⟨i, m⟩ ⟨hm, hi⟩
   simp only at hm hi
   simp only [go_sem]
   refine ⟨fun h => ?_, fun h => ?_⟩
   ·have e := bln_pos (n := m) (by omega)
    refine ⟨by omega, by decide, (i + 1, m / 2), weak_lit (by simp [okS, okV, okC, okL, okH, okB, okE, mkV_cons, mkV_nil, mkH_cons, mkH_nil, wsA, ws]; omega) trivial, ⟨by simp only; omega, by simp only; omega⟩, by simp only; omega⟩
   ·have : m = 0 := by omega
    subst this
    rw [bln_zero] at hi
    have e : (32 * ((x.length : Int) - 1) + (i : Int)) = ((32 * (x.length - 1) + bln w : Nat) : Int) := by omega
    rw [e]; exact hK
theorem times01_sound (hΓ : Holds P Γ) {f ft : Nat} (ht : Γ ft = .fresh 1 tr01_G) (hc : check P f = some (68, (ac_linkworkref01_times ft).strip, [.tmp 4])) : Sound P f (.dat false times_G) := by
 refine sound_dat hc times_good hΓ (fun args K hcl hfi hG => ?_)
 match args, hG with
 | [a, b], hG =>
  obtain ⟨x, rfl, hx, y, rfl, hy, hxl, hyl, hK⟩ := hG
  refine ⟨by simp, ?_⟩
  simp only [go_sem, ac_linkworkref01_times, ht]
  intro h1 h2
  refine ⟨by omega, by omega, fun _ => ?_⟩
  generalize hN : x.length + y.length = N
  refine wpA_loop (fun p : Nat × List Nat => ⟨mkV [(0, wsA x), (1, wsA y), (5, .one (.own 15 1 1 0 N)), (17, .one (.lit (.int .i64 x.length))), (18, .one (.lit (.int .i64 p.1)))], mkH [(15, ⟨1, some ⟨p.2.map wc, 1, true⟩⟩)]⟩)
   (fun p => p.1 ≤ x.length ∧ WL p.2 ∧ p.2.length = N ∧ val p.2 = val (x.take p.1) * val y ∧ ∀ j, p.1 + y.length ≤ j → p.2.getD j 0 = 0) (fun p => x.length - p.1) (0, List.replicate N 0) ?_ ?_ ?_
  ·exact weak_lit (by simp [okS, okV, okC, okL, okH, okB, okE, mkV_cons, mkV_nil, mkH_cons, mkH_nil, wsA, ws]) (okH_1 (by simp))
  ·simp [WL_rep, val, val_rep]; intro j _; rw [List.getElem?_replicate]; split <;> rfl
  ·rintro ⟨i, o⟩ ⟨hi, ho, hoN, hval, hz⟩
   simp only at hi ho hoN hval hz
   simp only [go_sem, ht, hoN]
   refine ⟨fun hlt => ?_, fun hge => ?_⟩
   ·have g1 := WL_getD hx i
    intro _
    refine wpA_loop (fun p : Nat × Nat × List Nat => ⟨mkV [(0, wsA x), (1, wsA y), (5, .one (.own 15 1 1 0 N)), (6, .one (.lit (.int .i64 i))), (7, .one (.lit (.int .u64 p.2.1))), (17, .one (.lit (.int .i64 x.length))), (18, .one (.lit (.int .i64 i))), (22, .one (.lit (.int .i64 y.length))), (23, .one (.lit (.int .i64 p.1)))], mkH [(15, ⟨1, some ⟨p.2.2.map wc, 1, true⟩⟩)]⟩)
     (fun p => p.1 ≤ y.length ∧ p.2.1 < 4294967296 ∧ WL p.2.2 ∧ p.2.2.length = N ∧ val p.2.2 + 4294967296 ^ i * 4294967296 ^ p.1 * p.2.1 = val (x.take i) * val y + 4294967296 ^ i * x.getD i 0 * val (y.take p.1) ∧ ∀ j, i + y.length ≤ j → p.2.2.getD j 0 = 0) (fun p => y.length - p.1) (0, 0, o) ?_ ?_ ?_
    ·exact weak_lit (by simp [okS, okV, okC, okL, okH, okB, okE, mkV_cons, mkV_nil, mkH_cons, mkH_nil, wsA, ws]) (okH_1 rfl)
    ·exact ⟨Nat.zero_le _, by simp, ho, hoN, by simp [val, hval], hz⟩
    ·rintro ⟨k, c, o⟩ ⟨hk, hc, ho, hoN, hval, hz⟩
     simp only at hk hc ho hoN hval hz
     simp only [go_sem, ht, hoN]
     refine ⟨fun hlt2 => ?_, fun hge2 => ?_⟩
     ·have g2 := WL_getD hy k
      have g3 := WL_getD ho (i + k)
      have s1 := mul_lt64 g1 g2 hc g3
      have e1 : x.getD i 0 % 18446744073709551616 = x.getD i 0 := by omega
      have e2 : y.getD k 0 % 18446744073709551616 = y.getD k 0 := by omega
      have e3 : o.getD (i + k) 0 % 18446744073709551616 = o.getD (i + k) 0 := by omega
      have hstep := times_step hval (by omega) rfl
      rw [e1, e2, e3, Nat.mod_eq_of_lt (show x.getD i 0 * y.getD k 0 < 18446744073709551616 by omega), Nat.mod_eq_of_lt (show x.getD i 0 * y.getD k 0 + o.getD (i + k) 0 < 18446744073709551616 by omega), Nat.mod_eq_of_lt (show x.getD i 0 * y.getD k 0 + o.getD (i + k) 0 + c < 18446744073709551616 by omega), Nat.add_comm _ c]
      generalize hs : c + (x.getD i 0 * y.getD k 0 + o.getD (i + k) 0) = s at s1 hstep
      refine ⟨hlt, hlt2, by omega, by omega, by omega, by omega, by decide, by omega, by omega, by omega, (k + 1, s / 4294967296, o.set (i + k) (s % 4294967296)), weak_lit (by simp [okS, okV, okC, okL, okH, okB, okE, mkV_cons, mkV_nil, mkH_cons, mkH_nil, wsA, ws]) (okH_1 rfl), ⟨by simp only; omega, by simp only; omega, WL_set ho _ (Nat.mod_lt _ (by omega)), by simp [hoN], hstep, ?_⟩, by simp only; omega⟩
      intro j hj
      simp only
      rw [Num.getD_set_ne (by omega)]; exact hz j hj
     ·have e : k = y.length := by omega
      subst e
      have hend := times_end hval (by omega) (hz _ (Nat.le_refl _))
      rw [Nat.mod_eq_of_lt hc]
      refine fun _ => ⟨by omega, by omega, by omega, by omega, (i + 1, o.set (i + y.length) c), weak_lit (by simp [okS, okV, okC, okL, okH, okB, okE, mkV_cons, mkV_nil, mkH_cons, mkH_nil, wsA, ws]) (okH_1 rfl), ⟨by simp only; omega, WL_set ho _ hc, by simp [hoN], hend, ?_⟩, by simp only; omega⟩
      intro j hj
      simp only at hj ⊢
      rw [Num.getD_set_ne (by omega)]; exact hz j (by omega)
   ·have e : i = x.length := by omega
    subst e
    rw [take_all (Nat.le_refl _)] at hval
    refine ⟨ho, by omega, ?_⟩
    rw [hval]; exact hK
end Go.Abs
end
