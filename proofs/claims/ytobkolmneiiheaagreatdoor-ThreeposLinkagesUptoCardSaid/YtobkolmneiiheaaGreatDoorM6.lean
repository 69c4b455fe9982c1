/-
  Parts of the proof, merged: ArgD, IntC, IntD, IntE, IntF, IntG, IntH, IntK, RatC, RefA, RatD, RatE, PoseP.
-/
import Derived.Test.YtobkolmneiiheaaGreatDoorM5
import Derived.Lib.BitFns
set_option linter.unusedVariables false
set_option linter.unusedSimpArgs false
section
set_option linter.unusedVariables false
namespace Go.Abs
open Go.Num
variable {H : Type} {enc : TypeId × Value → H} {bulk : DataW H → Nat} {P : Program} {w : World} {α : Type}
def okTn (n : Nat) (x : Tn) : Prop := rl x.1 ≤ n ∧ WLR x.1
def okPose (n : Nat) (x : Ps) : Prop := okP n x
def okDy (n : Nat) (d : Dy) : Prop := WLD d ∧ al d.1 ≤ n ∧ al d.2.1 ≤ n ∧ rl d.2.2 ≤ n
theorem okTn_mono (n n' : Nat) (a : Tn) (h : n ≤ n') (k : okTn n a) : okTn n' a := ⟨Nat.le_trans k.1 h, k.2⟩
theorem okPose_mono (n n' : Nat) (a : Ps) (h : n ≤ n') (k : okPose n a) : okPose n' a := ⟨k.1, Nat.le_trans k.2 h⟩
structure TnT (P : Program) (t : TypeId) : Prop where
 ex : ∃ f0 f1 : Field, P.underlying t = some (.struct #[f0, f1]) ∧ f0.offset = 0 ∧ f1.offset = 3 ∧ P.cellsOf t = 4 ∧ P.cellsOf f0.type = 3 ∧ P.cellsOf f1.type = 1 ∧ RatT P f0.type ∧ P.underlying f1.type = some .bool
theorem opens_tn {t : TypeId} (B : Bk bulk) (h : TnT P t) : Opens enc bulk P w t tC okTn := by
 obtain ⟨f0, f1, ht, o0, o1, hs, c0, c1, r0, r1⟩ := h.ex
 have := opens_struct2 (enc := enc) (w := w) B ht o0 (by omega) (by omega) okR_mono (fun _ _ _ _ h => h) (opens_rat (enc := enc) (w := w) B r0) (opens_bool (enc := enc) (bulk := bulk) (w := w) r1)
 exact this.imp fun n x h => ⟨h.1.1, h.1.2⟩
structure PsT (P : Program) (t : TypeId) : Prop where
 ex : ∃ f0 f1 : Field, P.underlying t = some (.struct #[f0, f1]) ∧ f0.offset = 0 ∧ f1.offset = 4 ∧ P.cellsOf t = 10 ∧ P.cellsOf f0.type = 4 ∧ P.cellsOf f1.type = 6 ∧ TnT P f0.type ∧ ArcT P f1.type
theorem opens_ps {t : TypeId} (B : Bk bulk) (h : PsT P t) : Opens enc bulk P w t pC okPose := by
 obtain ⟨f0, f1, ht, o0, o1, hs, c0, c1, r0, r1⟩ := h.ex
 have := opens_struct2 (enc := enc) (w := w) B ht o0 (by omega) (by omega) okTn_mono okArc_mono (opens_tn (enc := enc) (w := w) B r0) (opens_arc (enc := enc) (w := w) B r1)
 exact this.imp fun n x h => ⟨⟨h.1.2, h.2.1⟩, Nat.max_le.2 ⟨h.1.1, h.2.2⟩⟩
structure PosesT (P : Program) (t : TypeId) : Prop where
 ex : ∃ u, P.underlying t = some (.slice u) ∧ P.cellsOf u = 10 ∧ PsT P u
theorem opens_poses {t : TypeId} (B : Bk bulk) (h : PosesT P t) : Opens enc bulk P w t (fun l : List Ps => [.slice (l.map pC)]) (okLs okPose) := by
 obtain ⟨u, ht, hc, hu⟩ := h.ex
 exact opens_slice (enc := enc) (w := w) (e := pC) B ht (by omega) (fun a => by rw [hc]; rfl) clean_pC okPose_mono (opens_ps B hu)
structure DyT (P : Program) (t : TypeId) : Prop where
 ex : ∃ f0 f1 f2 : Field, P.underlying t = some (.struct #[f0, f1, f2]) ∧ f0.offset = 0 ∧ f1.offset = 6 ∧ f2.offset = 12 ∧ P.cellsOf t = 15 ∧ P.cellsOf f0.type = 6 ∧ P.cellsOf f1.type = 6 ∧ P.cellsOf f2.type = 3 ∧ ArcT P f0.type ∧ ArcT P f1.type ∧ RatT P f2.type
theorem opens_dy {t : TypeId} (B : Bk bulk) (h : DyT P t) : Opens enc bulk P w t dC okDy := by
 obtain ⟨f0, f1, f2, ht, o0, o1, o2, hs, c0, c1, c2, r0, r1, r2⟩ := h.ex
 have := opens_struct3 (enc := enc) (w := w) B ht o0 (by omega) (by omega) (by omega) okArc_mono okArc_mono okR_mono (opens_arc (enc := enc) (w := w) B r0) (opens_arc (enc := enc) (w := w) B r1) (opens_rat (enc := enc) (w := w) B r2)
 exact this.imp fun n x h => ⟨⟨h.1.1, h.2.1.1, h.2.2.2⟩, h.1.2, h.2.1.2, h.2.2.1⟩
theorem clean_dC (d : Dy) : CleanL (dC d) := by
 intro c hc
 simp only [dC, List.mem_cons, List.not_mem_nil, or_false] at hc
 rcases hc with rfl | rfl | rfl | rfl | rfl | rfl | rfl | rfl | rfl | rfl | rfl | rfl | rfl | rfl | rfl
 all_goals first | exact of_eq_true (clean_cb _) | exact of_eq_true (clean_cn _) | exact of_eq_true (clean_cd _)
theorem clean_place (x : Arc) : CleanL (aC x) := fun c hc => clean_aC x c hc
end Go.Abs
end
section
set_option linter.unusedVariables false
set_option linter.unusedSimpArgs false
set_option maxRecDepth 100000
namespace Go.Abs
open Go.Num
variable {P : Program} {Γ : Nat → Spec}
def ac_integer_trim : AC := (.seq (.ops false [.m 2 (.c (.one .emp))])
 (.fg [0] (.seq (.ops false [.m 4 (.t 0), .u 5 (.len (.t 4)), .m 3 (.t 5)])
 (.fg [0, 3] (.seq (.block 0 (.loop (.seq (.seq (.ops false [.m 6 (.t 3), .u 7 (.bin .gtr (.t 6) (.i 0)), .m 8 (.t 7), .w 9 8 true (.mv (.t 0)), .w 10 8 true (.mv (.t 3)), .w 11 8 true (.bin .sub (.t 10) (.i 1)), .w 12 8 true (.idx 1 (.t 9) (.t 11)), .w 13 8 true (.ld none 1 false (.t 12)), .w 14 8 true (.bin .eql (.t 13) (.c (.one (.lit (.int .u32 0))))), .u 15 (.pick (.t 8) (.t 14) .fa)])
 (.fg [0, 3, 15] (.cond (.t 15) .skip (.exit 0))))
 (.fg [0, 3] (.block 1 (.ops false [.m 16 (.t 3), .u 17 (.bin .sub (.t 16) (.i 1)), .m 3 (.t 17)]))))))
 (.fg [0, 3] (.seq (.seq (.ops false [.m 18 (.t 3), .u 19 (.bin .eql (.t 18) (.i 0))])
 (.fg [0, 3, 19] (.cond (.t 19) (.seq (.ops false [.m 2 (.c (.one .emp))])
 .ret) .skip)))
 (.fg [0, 3] (.seq (.ops false [.m 20 (.c (.one .emp)), .m 21 (.t 0), .m 22 (.t 3), .u 23 (.sl 1 (.t 21) none (some (.t 22))), .u 24 (.app0 1 (.t 20) (.t 23)), .m 2 (.t 24)])
 .ret)))))))))
def ac_integer_word : AC := (.seq (.ops false [.m 4 (.c (.one (.lit (.int .u64 0))))])
 (.fg [0, 1] (.seq (.seq (.ops false [.m 5 (.t 1), .m 6 (.t 0), .u 7 (.len (.t 6)), .u 8 (.bin .lss (.t 5) (.t 7))])
 (.fg [0, 1, 8] (.cond (.t 8) (.seq (.ops false [.m 9 (.t 0), .m 10 (.t 1), .u 11 (.idx 1 (.t 9) (.t 10)), .u 12 (.ld none 1 false (.t 11)), .u 13 (.conv .u64 (.t 12)), .m 4 (.t 13)])
 .ret) .skip)))
 (.fg [] (.seq (.ops false [.m 4 (.c (.one (.lit (.int .u64 0))))])
 .ret)))))
def ac_integer_plus (f0 f1 : Nat) : AC := (.seq (.ops false [.m 4 (.c (.one .emp))])
 (.fg [0, 1] (.seq (.ops false [.m 8 (.t 0), .u 9 (.len (.t 8)), .m 10 (.t 1), .u 11 (.len (.t 10)), .u 12 (.max [(.t 9), (.t 11)]), .u 13 (.bin .add (.t 12) (.i 1)), .u 14 (.mk 1 [(.lit (.int .u32 0))] (.t 13) (.t 13)), .m 5 (.t 14)])
 (.fg [0, 1, 5] (.seq (.ops false [.m 6 (.c (.one (.lit (.int .u64 0))))])
 (.fg [0, 1, 5, 6] (.seq (.seq (.ops false [.m 15 (.t 5), .u 16 (.len (.t 15)), .m 17 (.i 0)])
 (.fg [0, 1, 5, 6, 16, 17] (.block 0 (.loop (.seq (.ops false [.u 18 (.bin .lss (.t 17) (.t 16))])
 (.fg [0, 1, 5, 6, 16, 17, 18] (.seq (.cond (.t 18) .skip (.exit 0))
 (.fg [0, 1, 5, 6, 16, 17] (.seq (.block 1 (.seq (.ops false [.m 19 (.t 17), .m 7 (.t 19)])
 (.fg [0, 1, 5, 6, 7, 16, 17] (.seq (.ops false [.m 20 (.t 6), .m 21 (.t 0), .m 22 (.t 7), .u 23 (.call f0 [(.t 21), (.t 22)]), .m 24 (.t 1), .m 25 (.t 7), .u 26 (.call f0 [(.t 24), (.t 25)]), .u 27 (.bin .add (.t 23) (.t 26)), .u 28 (.bin .add (.t 20) (.t 27)), .m 6 (.t 28)])
 (.fg [0, 1, 5, 6, 7, 16, 17] (.seq (.ops false [.m 29 (.t 5), .m 30 (.t 7), .m 31 (.t 6), .u 32 (.conv .u32 (.t 31)), .u 33 (.idx 1 (.t 29) (.t 30)), .n (.st none 1 (.t 33) (.t 32))])
 (.fg [0, 1, 5, 6, 16, 17] (.ops false [.m 34 (.t 6), .u 35 (.bin .shr (.t 34) (.c (.one (.lit (.int .u64 32))))), .m 6 (.t 35)]))))))))
 (.fg [0, 1, 5, 6, 16, 17] (.ops false [.u 36 (.bin .add (.t 17) (.i 1)), .m 17 (.t 36)])))))))))))
 (.fg [5] (.seq (.ops false [.m 37 (.t 5), .u 38 (.call f1 [(.t 37)]), .m 4 (.t 38)])
 .ret)))))))))
theorem trim_sound (hΓ : Holds P Γ) {f : Nat} (hc : check P f = some (25, ac_integer_trim.strip, [.tmp 2])) : Sound P f (.dat false trim_G) := by
 refine sound_dat hc trim_good hΓ (fun args K hcl hfi hG => ?_)
 match args, hG with
 | [a], hG =>
  obtain ⟨l, rfl, hl, hlen, hK⟩ := hG
  refine ⟨by simp, ?_⟩
  simp only [go_sem, ac_integer_trim]
  intro hmax
  refine wpA_loop (fun n : Nat => ⟨mkV [(0, wsA l), (3, .one (.lit (.int .i64 n)))], mkH []⟩) (fun n => n ≤ l.length ∧ val (l.take n) = val l) id l.length ?_ ?_ ?_
  ·exact weak_lit (by simp [okS, okV, okC, okL, okH, okB, okE, mkV_cons, mkV_nil, mkH_cons, mkH_nil, wsA, ws]) trivial
  ·simp
  ·rintro n ⟨hn, ht⟩
   simp only [go_sem]
   refine ⟨fun h => ⟨by omega, by omega, by omega, fun h0 => ⟨by omega, n - 1, weak_lit (by simp [okS, okV, okC, okL, okH, okB, okE, mkV_cons, mkV_nil, mkH_cons, mkH_nil, wsA, ws]; omega) trivial, ⟨by omega, ?_⟩, ?_⟩, fun h0 => ⟨fun h1 => by omega, fun _ => ⟨by omega, by simp; omega, ?_⟩⟩⟩, fun h => ⟨fun h1 => ?_, fun h1 => by omega⟩⟩
   ·rw [show ((n : Int) - 1).toNat = n - 1 by omega] at h0
    have := take_succ l (n - 1)
    rw [show n - 1 + 1 = n by omega, h0, Nat.mul_zero, Nat.add_zero] at this
    rw [← this]; exact ht
   ·simp only [id]; omega
   ·rw [show ((n : Int) - 1).toNat = n - 1 by omega] at h0
    have := digs_val (WL_take hl n) (NZ_take h hn h0)
    rw [← this, ht]; exact hK
   ·subst h1
    have : val l = 0 := by rw [← ht]; simp [val]
    rw [this, digs_zero] at hK; exact hK
theorem word_sound (hΓ : Holds P Γ) {f : Nat} (hc : check P f = some (14, ac_integer_word.strip, [.tmp 4])) : Sound P f (.dat true word_G) := by
 refine sound_dat hc word_good hΓ (fun args K hcl hfi hG => ?_)
 match args, hG with
 | [a, b], hG =>
  obtain ⟨l, rfl, hl, hG⟩ := hG
  obtain ⟨k, i, rfl, rfl, hi, hK⟩ := asInt_inv hG
  refine ⟨by simp, ?_⟩
  simp only [go_sem, ac_integer_word]
  intro hmax
  refine ⟨fun h => ⟨hi, by omega, ?_⟩, fun h => ?_⟩
  ·have := WL_getD hl i.toNat
   rw [Nat.mod_eq_of_lt (by omega)]; exact hK
  ·rw [List.getD_eq_getElem?_getD, List.getElem?_eq_none (by omega)] at hK; exact hK
theorem plus_sound (hΓ : Holds P Γ) {f fw ft : Nat} (hw : Γ fw = .dat true word_G) (ht : Γ ft = .dat false trim_G) (hc : check P f = some (39, (ac_integer_plus fw ft).strip, [.tmp 4])) : Sound P f (.dat false plus_G) := by
 refine sound_dat hc plus_good hΓ (fun args K hcl hfi hG => ?_)
 match args, hG with
 | [a, b], hG =>
  obtain ⟨x, rfl, hx, y, rfl, hy, hxl, hyl, hK⟩ := hG
  refine ⟨by simp, ?_⟩
  simp only [go_sem, ac_integer_plus, hw, ht]
  intro h1 h2
  refine ⟨by omega, by omega, fun hN => ?_⟩
  generalize hNN : max x.length y.length + 1 = N at hN
  refine wpA_loop (fun p : List Nat × Nat => ⟨mkV [(0, wsA x), (1, wsA y), (5, .one (.own 14 1 1 0 N)), (6, .one (.lit (.int .u64 p.2))), (16, .one (.lit (.int .i64 N))), (17, .one (.lit (.int .i64 p.1.length)))], mkH [(14, ⟨1, some ⟨(p.1 ++ List.replicate (N - p.1.length) 0).map wc, 1, true⟩⟩)]⟩)
   (fun p => p.1.length ≤ N ∧ WL p.1 ∧ p.2 ≤ 1 ∧ val p.1 + 4294967296 ^ p.1.length * p.2 = val (x.take p.1.length) + val (y.take p.1.length)) (fun p => N - p.1.length) ([], 0) ?_ ?_ ?_
  ·exact weak_lit (by simp [okS, okV, okC, okL, okH, okB, okE, mkV_cons, mkV_nil, mkH_cons, mkH_nil, wsA, ws]) (okH_1 (by simp))
  ·simp [WL_nil, val]
  ·rintro ⟨o, c⟩ ⟨hoN, ho, hc1, hval⟩
   simp only at hoN ho hc1 hval
   have hlen : (o ++ List.replicate (N - o.length) 0).length = N := by simp; omega
   simp only [go_sem, hw, ht, hlen]
   refine ⟨fun hlt => ⟨hx, hy, hlt, hlt, by omega, by omega, ?_⟩, fun hge => ?_⟩
   ·have g1 := WL_getD hx o.length
    have g2 := WL_getD hy o.length
    rw [Nat.mod_eq_of_lt (show x.getD o.length 0 + y.getD o.length 0 < 18446744073709551616 by omega), Nat.mod_eq_of_lt (show c + (x.getD o.length 0 + y.getD o.length 0) < 18446744073709551616 by omega)]
    generalize hs : c + (x.getD o.length 0 + y.getD o.length 0) = s
    refine ⟨(o ++ [s % 4294967296], s / 4294967296), weak_lit (by simp [okS, okV, okC, okL, okH, okB, okE, mkV_cons, mkV_nil, mkH_cons, mkH_nil, wsA, ws]) (okH_1 ?_), ⟨by simp; omega, WL_append.2 ⟨ho, WL_cons.2 ⟨Nat.mod_lt _ (by omega), WL_nil⟩⟩, by simp only; omega, ?_⟩, by simp; omega⟩
    ·rw [show N - o.length = N - (o.length + 1) + 1 by omega, rep_set]; simp
    ·simp only [List.length_append, List.length_cons, List.length_nil, Nat.zero_add, take_succ, val_append, val_cons, val_nil, Nat.mul_zero, Nat.add_zero, Nat.pow_succ]
     rw [Nat.mul_assoc, Nat.add_assoc, ← Nat.mul_add, Nat.mod_add_div, ← hs, Nat.mul_add, ← Nat.add_assoc, hval, Nat.mul_add]
     omega
   ·have e : o.length = N := by omega
    simp only [e, Nat.sub_self, List.replicate_zero, List.append_nil, Nat.le_refl, if_true, onWs_e]
    have hv : val o = val x + val y := by
     rw [e, take_all (by omega), take_all (by omega)] at hval
     exact sum_fits hx hy (by omega) (by omega) (by omega) hval
    refine ⟨ho, by omega, ?_⟩
    rw [hv]; exact hK
end Go.Abs
end
section
set_option linter.unusedVariables false
set_option linter.unusedSimpArgs false
set_option maxRecDepth 100000
namespace Go.Abs
open Go.Num
variable {P : Program} {Γ : Nat → Spec}
def ac_integer_less (f0 f1 : Nat) : AC := (.seq (.ops false [.m 4 (.c (.one .emp))])
 (.fg [0, 1] (.seq (.ops false [.m 9 (.t 0), .u 10 (.len (.t 9)), .u 11 (.mk 1 [(.lit (.int .u32 0))] (.t 10) (.t 10)), .m 5 (.t 11)])
 (.fg [0, 1, 5] (.seq (.ops false [.m 6 (.c (.one (.lit (.int .u64 0))))])
 (.fg [0, 1, 5, 6] (.seq (.seq (.ops false [.m 12 (.t 5), .u 13 (.len (.t 12)), .m 14 (.i 0)])
 (.fg [0, 1, 5, 6, 13, 14] (.block 0 (.loop (.seq (.ops false [.u 15 (.bin .lss (.t 14) (.t 13))])
 (.fg [0, 1, 5, 6, 13, 14, 15] (.seq (.cond (.t 15) .skip (.exit 0))
 (.fg [0, 1, 5, 6, 13, 14] (.seq (.block 1 (.seq (.ops false [.m 16 (.t 14), .m 7 (.t 16)])
 (.fg [0, 1, 5, 6, 7, 13, 14] (.seq (.ops true [.m 17 (.t 0), .m 18 (.t 7), .u 19 (.idx 1 (.t 17) (.t 18)), .u 20 (.ld none 1 false (.t 19)), .u 21 (.conv .u64 (.t 20)), .m 22 (.t 1), .m 23 (.t 7), .u 24 (.call f0 [(.t 22), (.t 23)]), .u 25 (.bin .sub (.t 21) (.t 24)), .m 26 (.t 6), .u 27 (.bin .sub (.t 25) (.t 26)), .m 8 (.t 27)])
 (.fg [0, 1, 5, 7, 8, 13, 14] (.seq (.ops false [.m 28 (.t 5), .m 29 (.t 7), .m 30 (.t 8), .u 31 (.conv .u32 (.t 30)), .u 32 (.idx 1 (.t 28) (.t 29)), .n (.st none 1 (.t 32) (.t 31))])
 (.fg [0, 1, 5, 8, 13, 14] (.ops false [.m 33 (.t 8), .u 34 (.bin .shr (.t 33) (.c (.one (.lit (.int .u64 63))))), .m 6 (.t 34)]))))))))
 (.fg [0, 1, 5, 6, 13, 14] (.ops false [.u 35 (.bin .add (.t 14) (.i 1)), .m 14 (.t 35)])))))))))))
 (.fg [5] (.seq (.ops false [.m 36 (.t 5), .u 37 (.call f1 [(.t 36)]), .m 4 (.t 37)])
 .ret)))))))))
def ac_integer_compare : AC := (.seq (.ops false [.m 4 (.i 0)])
 (.fg [0, 1] (.seq (.seq (.ops false [.m 6 (.t 0), .u 7 (.len (.t 6)), .m 8 (.t 1), .u 9 (.len (.t 8)), .u 10 (.bin .neq (.t 7) (.t 9))])
 (.fg [0, 1, 10] (.cond (.t 10) (.seq (.seq (.ops false [.m 11 (.t 0), .u 12 (.len (.t 11)), .m 13 (.t 1), .u 14 (.len (.t 13)), .u 15 (.bin .lss (.t 12) (.t 14))])
 (.fg [15] (.cond (.t 15) (.seq (.ops false [.m 4 (.i (-1))])
 .ret) .skip)))
 (.fg [] (.seq (.ops false [.m 4 (.i 1)])
 .ret))) .skip)))
 (.fg [0, 1] (.seq (.seq (.ops false [.m 16 (.t 0), .u 17 (.len (.t 16)), .u 18 (.bin .sub (.t 17) (.i 1)), .m 5 (.t 18)])
 (.fg [0, 1, 5] (.block 0 (.loop (.seq (.seq (.ops false [.m 19 (.t 5), .u 20 (.bin .geq (.t 19) (.i 0))])
 (.fg [0, 1, 5, 20] (.cond (.t 20) .skip (.exit 0))))
 (.fg [0, 1, 5] (.seq (.block 1 (.seq (.ops true [.m 23 (.t 0), .m 24 (.t 5), .u 25 (.idx 1 (.t 23) (.t 24)), .u 26 (.ld none 1 false (.t 25)), .m 27 (.t 1), .m 28 (.t 5), .u 29 (.idx 1 (.t 27) (.t 28)), .u 30 (.ld none 1 false (.t 29)), .u 31 (.bin .neq (.t 26) (.t 30))])
 (.fg [0, 1, 5, 31] (.cond (.t 31) (.seq (.seq (.ops true [.m 32 (.t 0), .m 33 (.t 5), .u 34 (.idx 1 (.t 32) (.t 33)), .u 35 (.ld none 1 false (.t 34)), .m 36 (.t 1), .m 37 (.t 5), .u 38 (.idx 1 (.t 36) (.t 37)), .u 39 (.ld none 1 false (.t 38)), .u 40 (.bin .lss (.t 35) (.t 39))])
 (.fg [40] (.cond (.t 40) (.seq (.ops false [.m 4 (.i (-1))])
 .ret) .skip)))
 (.fg [] (.seq (.ops false [.m 4 (.i 1)])
 .ret))) .skip))))
 (.fg [0, 1, 5] (.ops false [.m 21 (.t 5), .u 22 (.bin .sub (.t 21) (.i 1)), .m 5 (.t 22)])))))))))
 (.fg [] (.seq (.ops false [.m 4 (.i 0)])
 .ret)))))))
def ac_integer_short (f0 : Nat) : AC := (.seq (.ops false [.m 4 (.c (.one .emp)), .m 5 (.c (.one (.lit (.int .u32 0))))])
 (.fg [0, 1] (.seq (.ops false [.m 9 (.t 0), .u 10 (.len (.t 9)), .u 11 (.mk 1 [(.lit (.int .u32 0))] (.t 10) (.t 10)), .m 6 (.t 11)])
 (.fg [0, 1, 6] (.seq (.ops false [.m 7 (.c (.one (.lit (.int .u64 0))))])
 (.fg [0, 1, 6, 7] (.seq (.seq (.ops false [.m 12 (.t 0), .u 13 (.len (.t 12)), .u 14 (.bin .sub (.t 13) (.i 1)), .m 8 (.t 14)])
 (.fg [0, 1, 6, 7, 8] (.block 0 (.loop (.seq (.seq (.ops false [.m 15 (.t 8), .u 16 (.bin .geq (.t 15) (.i 0))])
 (.fg [0, 1, 6, 7, 8, 16] (.cond (.t 16) .skip (.exit 0))))
 (.fg [0, 1, 6, 7, 8] (.seq (.block 1 (.seq (.ops false [.m 19 (.t 7), .u 20 (.bin .shl (.t 19) (.c (.one (.lit (.int .u64 32))))), .m 21 (.t 0), .m 22 (.t 8), .u 23 (.idx 1 (.t 21) (.t 22)), .u 24 (.ld none 1 false (.t 23)), .u 25 (.conv .u64 (.t 24)), .u 26 (.bin .or (.t 20) (.t 25)), .m 7 (.t 26)])
 (.fg [0, 1, 6, 7, 8] (.seq (.ops false [.m 27 (.t 6), .m 28 (.t 8), .m 29 (.t 7), .m 30 (.t 1), .u 31 (.conv .u64 (.t 30)), .u 32 (.bin .quo (.t 29) (.t 31)), .u 33 (.conv .u32 (.t 32)), .u 34 (.idx 1 (.t 27) (.t 28)), .n (.st none 1 (.t 34) (.t 33))])
 (.fg [0, 1, 6, 7, 8] (.ops false [.m 35 (.t 7), .m 36 (.t 1), .u 37 (.conv .u64 (.t 36)), .u 38 (.bin .rem (.t 35) (.t 37)), .m 7 (.t 38)]))))))
 (.fg [0, 1, 6, 7, 8] (.ops false [.m 17 (.t 8), .u 18 (.bin .sub (.t 17) (.i 1)), .m 8 (.t 18)])))))))))
 (.fg [6, 7] (.seq (.ops false [.m 39 (.t 6), .u 40 (.call f0 [(.t 39)]), .m 41 (.t 7), .u 42 (.conv .u32 (.t 41)), .m 4 (.t 40), .m 5 (.t 42)])
 .ret)))))))))
theorem less_sound (hΓ : Holds P Γ) {f fw ft : Nat} (hw : Γ fw = .dat true word_G) (ht : Γ ft = .dat false trim_G) (hc : check P f = some (38, (ac_integer_less fw ft).strip, [.tmp 4])) : Sound P f (.dat false less_G) := by
 refine sound_dat hc less_good hΓ (fun args K hcl hfi hG => ?_)
 match args, hG with
 | [a, b], hG =>
  obtain ⟨x, rfl, hx, y, rfl, hy, hxl, hle, hK⟩ := hG
  refine ⟨by simp, ?_⟩
  simp only [go_sem, ac_integer_less, hw, ht]
  intro h1
  refine ⟨by omega, fun _ => ?_⟩
  generalize hN : x.length = N at h1 hxl
  refine wpA_loop (fun p : List Nat × Nat => ⟨mkV [(0, wsA x), (1, wsA y), (5, .one (.own 11 1 1 0 N)), (6, .one (.lit (.int .u64 p.2))), (13, .one (.lit (.int .i64 N))), (14, .one (.lit (.int .i64 p.1.length)))], mkH [(11, ⟨1, some ⟨(p.1 ++ List.replicate (N - p.1.length) 0).map wc, 1, true⟩⟩)]⟩)
   (fun p => p.1.length ≤ N ∧ WL p.1 ∧ p.2 ≤ 1 ∧ val p.1 + val (y.take p.1.length) = val (x.take p.1.length) + 4294967296 ^ p.1.length * p.2) (fun p => N - p.1.length) ([], 0) ?_ ?_ ?_
  ·exact weak_lit (by simp [okS, okV, okC, okL, okH, okB, okE, mkV_cons, mkV_nil, mkH_cons, mkH_nil, wsA, ws]) (okH_1 (by simp))
  ·simp [WL_nil, val]
  ·rintro ⟨o, c⟩ ⟨hoN, ho, hc1, hval⟩
   simp only at hoN ho hc1 hval
   have hlen : (o ++ List.replicate (N - o.length) 0).length = N := by simp; omega
   simp only [go_sem, hw, ht, hlen]
   refine ⟨fun hlt => ⟨by omega, hy, hlt, hlt, by omega, by omega, ?_⟩, fun hge => ?_⟩
   ·have g1 := WL_getD hx o.length
    have g2 := WL_getD hy o.length
    rw [Nat.mod_eq_of_lt (show x.getD o.length 0 < 18446744073709551616 by omega)]
    obtain ⟨s1, s2⟩ := sub_step g1 g2 hc1
    generalize sub64 (sub64 (x.getD o.length 0) (y.getD o.length 0)) c = s at s1 s2
    refine ⟨(o ++ [s % 4294967296], s / 9223372036854775808), weak_lit (by simp [okS, okV, okC, okL, okH, okB, okE, mkV_cons, mkV_nil, mkH_cons, mkH_nil, wsA, ws]) (okH_1 ?_), ⟨by simp; omega, WL_append.2 ⟨ho, WL_cons.2 ⟨Nat.mod_lt _ (by omega), WL_nil⟩⟩, s2, ?_⟩, by simp; omega⟩
    ·rw [show N - o.length = N - (o.length + 1) + 1 by omega, rep_set]; simp
    ·simp only [List.length_append, List.length_cons, List.length_nil, Nat.zero_add, take_succ, val_append, val_cons, val_nil, Nat.mul_zero, Nat.add_zero, Nat.pow_succ]
     exact less_aux hval s1
   ·have e : o.length = N := by omega
    have hv := less_end ho hx (by omega) hle hval
    simp only [e, Nat.sub_self, List.replicate_zero, List.append_nil]
    refine ⟨ho, by omega, ?_⟩
    rw [hv]; exact hK
theorem compare_sound (hΓ : Holds P Γ) {f : Nat} (hc : check P f = some (41, ac_integer_compare.strip, [.tmp 4])) : Sound P f (.dat false compare_G) := by
 refine sound_dat hc compare_good hΓ (fun args K hcl hfi hG => ?_)
 match args, hG with
 | [a, b], hG =>
  obtain ⟨x, rfl, hx, y, rfl, hy, hzx, hzy, hK⟩ := hG
  refine ⟨by simp, ?_⟩
  simp only [go_sem, ac_integer_compare]
  intro h1 h2
  refine ⟨fun hl _ => ⟨by omega, ?_⟩, fun hne _ _ => ⟨fun hlt => ?_, fun hge => ?_⟩⟩
  rotate_left
  ·rw [ordN_lt (lt_of_len hx hzy hlt)] at hK; exact hK
  ·rw [ordN_gt (lt_of_len hy hzx (by omega))] at hK; exact hK
  refine wpA_loop (fun n : Nat => ⟨mkV [(0, wsA x), (1, wsA y), (5, .one (.lit (.int .i64 ((n : Int) - 1))))], mkH []⟩) (fun n => n ≤ x.length ∧ x.drop n = y.drop n) id x.length ?_ ?_ ?_
  ·exact weak_lit (by simp [okS, okV, okC, okL, okH, okB, okE, mkV_cons, mkV_nil, mkH_cons, mkH_nil, wsA, ws]) trivial
  ·simp [hl]
  ·rintro n ⟨hn, hd⟩
   simp only [go_sem]
   refine ⟨fun h => ⟨by omega, by omega, by omega, by omega, fun he => ⟨by omega, n - 1, weak_lit (by simp [okS, okV, okC, okL, okH, okB, okE, mkV_cons, mkV_nil, mkH_cons, mkH_nil, wsA, ws]; omega) trivial, ⟨by omega, ?_⟩, by simp only [id]; omega⟩, fun hne => ?_⟩, fun h => ?_⟩
   ·rw [show ((n : Int) - 1).toNat = n - 1 by omega] at he
    rw [List.getD_eq_getElem?_getD, List.getD_eq_getElem?_getD, List.getElem?_eq_getElem (by omega), List.getElem?_eq_getElem (by omega)] at he
    have e1 := List.getElem_cons_drop (as := x) (i := n - 1) (by omega)
    have e2 := List.getElem_cons_drop (as := y) (i := n - 1) (by omega)
    rw [show n - 1 + 1 = n by omega] at e1 e2
    rw [← e1, ← e2, hd]
    simp only [Option.getD_some] at he
    rw [he]
   ·rw [show ((n : Int) - 1).toNat = n - 1 by omega] at hne ⊢
    refine ⟨by omega, by omega, by omega, by omega, fun hlt => ?_, fun hge => ?_⟩
    ·rw [ordN_lt (cmp_lt (i := n - 1) hx hl (by omega) (by rw [show n - 1 + 1 = n by omega]; exact hd) hlt)] at hK; exact hK
    ·rw [ordN_gt (cmp_lt (i := n - 1) hy hl.symm (by omega) (by rw [show n - 1 + 1 = n by omega]; exact hd.symm) (by omega))] at hK; exact hK
   ·have : n = 0 := by omega
    subst this
    simp only [List.drop_zero] at hd
    rw [hd, ordN_eq] at hK; exact hK
theorem short_sound (hΓ : Holds P Γ) {f ft : Nat} (ht : Γ ft = .dat false trim_G) (hc : check P f = some (43, (ac_integer_short ft).strip, [.tmp 4, .tmp 5])) : Sound P f (.dat false short_G) := by
 refine sound_dat hc short_good hΓ (fun args K hcl hfi hG => ?_)
 match args, hG with
 | [a, b], hG =>
  obtain ⟨x, rfl, hx, hG⟩ := hG
  obtain ⟨k, m, rfl, rfl, hm, hmB, hxl, hK⟩ := asInt_inv hG
  obtain ⟨m, rfl⟩ : ∃ n : Nat, m = n := ⟨m.toNat, by omega⟩
  simp only [Int.toNat_natCast] at hK
  refine ⟨by simp, ?_⟩
  simp only [go_sem, ac_integer_short, ht]
  intro h1
  refine ⟨hxl, fun _ => ⟨by omega, ?_⟩⟩
  refine wpA_loop (fun p : List Nat × Nat => ⟨mkV [(0, wsA x), (1, .one (.lit (.int .u32 m))), (6, .one (.own 11 1 1 0 x.length)), (7, .one (.lit (.int .u64 p.2))), (8, .one (.lit (.int .i64 ((x.length : Int) - p.1.length - 1))))], mkH [(11, ⟨1, some ⟨(List.replicate (x.length - p.1.length) 0 ++ p.1).map wc, 1, true⟩⟩)]⟩)
   (fun p => p.1.length ≤ x.length ∧ WL p.1 ∧ p.2 < m ∧ val p.1 * m + p.2 = val (x.drop (x.length - p.1.length))) (fun p => x.length - p.1.length) ([], 0) ?_ ?_ ?_
  ·exact weak_lit (by simp [okS, okV, okC, okL, okH, okB, okE, mkV_cons, mkV_nil, mkH_cons, mkH_nil, wsA, ws]) (okH_1 (by simp))
  ·simp [WL_nil, val]; omega
  ·rintro ⟨q, r⟩ ⟨hq, hqw, hr, hval⟩
   simp only at hq hqw hr hval
   have hlen : (List.replicate (x.length - q.length) 0 ++ q).length = x.length := by simp; omega
   simp only [go_sem, ht, hlen]
   refine ⟨fun h => ?_, fun h => ?_⟩
   ·obtain ⟨n, hn⟩ : ∃ n, n = x.length - q.length := ⟨_, rfl⟩
    have hn0 : 0 < n := by omega
    have hi : ((x.length : Int) - q.length - 1).toNat = n - 1 := by omega
    have g1 := WL_getD hx (n - 1)
    have hd := drop_cons x hn0 (by omega)
    obtain ⟨s1, s2⟩ := short_lt (by omega) hr g1
    have s3 := short_aux (B := 4294967296) (a := x.getD (n - 1) 0) (by omega) (hn ▸ hval)
    have e1 : r * 4294967296 % 18446744073709551616 = r * 4294967296 := by omega
    have e2 : x.getD (n - 1) 0 % 18446744073709551616 = x.getD (n - 1) 0 := by omega
    have e3 : m % 18446744073709551616 = m := by omega
    rw [hi, ← hn, e1, e2, e3, or32 _ _ g1]
    generalize hs : r * 4294967296 + x.getD (n - 1) 0 = s at s1 s2 s3
    rw [Nat.mod_eq_of_lt (show s / m < 18446744073709551616 by omega), Nat.mod_eq_of_lt s1]
    have hm0 : s % m < m := Nat.mod_lt _ (by omega)
    refine ⟨⟨rfl, by omega⟩, by omega, by omega, ⟨rfl, by omega, by omega⟩, by omega, ⟨by omega, by omega⟩, by omega, by omega, by omega, (s / m :: q, s % m), weak_lit (by simp [okS, okV, okC, okL, okH, okB, okE, mkV_cons, mkV_nil, mkH_cons, mkH_nil, wsA, ws]; omega) (okH_1 ?_), ⟨by simp; omega, WL_cons.2 ⟨s1, hqw⟩, hm0, ?_⟩, by simp; omega⟩
    ·simp only [List.length_cons]
     rw [rep_set_low q _ hn0, show x.length - (q.length + 1) = n - 1 by omega]
    ·rw [val_cons, List.length_cons, show x.length - (q.length + 1) = n - 1 by omega, hd]; exact s3
   ·have e : x.length - q.length = 0 := by omega
    simp only [e, List.replicate_zero, List.nil_append, List.drop_zero] at hval ⊢
    have h1 := Nat.div_mod_unique (show 0 < m by omega) (a := val x) (c := r) (d := val q)
    obtain ⟨h2, h3⟩ := h1.2 ⟨by rw [← hval, Nat.mul_comm m, Nat.add_comm], hr⟩
    rw [h2, h3] at hK
    refine ⟨hqw, by omega, ?_⟩
    rw [Nat.mod_eq_of_lt (by omega)]; exact hK
end Go.Abs
end
section
set_option linter.unusedVariables false
set_option linter.unusedSimpArgs false
set_option maxRecDepth 100000
namespace Go.Abs
open Go.Num
variable {P : Program} {Γ : Nat → Spec}
def ac_integer_up : AC := (.seq (.ops false [.m 4 (.c (.one .emp))])
 (.fg [0, 1] (.seq (.ops false [.m 9 (.t 0), .u 10 (.len (.t 9)), .u 11 (.bin .add (.t 10) (.i 1)), .u 12 (.mk 1 [(.lit (.int .u32 0))] (.t 11) (.t 11)), .m 5 (.t 12)])
 (.fg [0, 1, 5] (.seq (.seq (.ops false [.m 13 (.t 0), .u 14 (.len (.t 13)), .m 15 (.i 0)])
 (.fg [1, 5, 13, 14, 15] (.block 0 (.loop (.seq (.ops false [.u 16 (.bin .lss (.t 15) (.t 14))])
 (.fg [1, 5, 13, 14, 15, 16] (.seq (.cond (.t 16) .skip (.exit 0))
 (.fg [1, 5, 13, 14, 15] (.seq (.block 1 (.seq (.ops false [.m 17 (.t 15), .u 18 (.idx 1 (.t 13) (.t 15)), .u 19 (.ld none 1 false (.t 18)), .m 6 (.t 17), .m 7 (.t 19)])
 (.fg [1, 5, 6, 7, 13, 14, 15] (.seq (.ops false [.m 20 (.t 7), .u 21 (.conv .u64 (.t 20)), .m 22 (.t 1), .u 23 (.bin .shl (.t 21) (.t 22)), .m 8 (.t 23)])
 (.fg [1, 5, 6, 8, 13, 14, 15] (.seq (.ops false [.m 24 (.t 5), .m 25 (.t 6), .u 26 (.idx 1 (.t 24) (.t 25)), .u 27 (.ld none 1 false (.t 26)), .m 28 (.t 8), .u 29 (.conv .u32 (.t 28)), .u 30 (.bin .or (.t 27) (.t 29)), .u 31 (.idx 1 (.t 24) (.t 25)), .n (.st none 1 (.t 31) (.t 30))])
 (.fg [1, 5, 6, 8, 13, 14, 15] (.ops false [.m 32 (.t 5), .m 33 (.t 6), .u 34 (.bin .add (.t 33) (.i 1)), .m 35 (.t 8), .u 36 (.bin .shr (.t 35) (.c (.one (.lit (.int .u64 32))))), .u 37 (.conv .u32 (.t 36)), .u 38 (.idx 1 (.t 32) (.t 34)), .n (.st none 1 (.t 38) (.t 37))]))))))))
 (.fg [1, 5, 13, 14, 15] (.ops false [.u 39 (.bin .add (.t 15) (.i 1)), .m 15 (.t 39)])))))))))))
 (.fg [5] (.seq (.ops false [.m 40 (.t 5), .m 4 (.t 40)])
 .ret)))))))
def ac_integer_down (f0 f1 : Nat) : AC := (.seq (.ops false [.m 4 (.c (.one .emp))])
 (.fg [0, 1] (.seq (.ops false [.m 7 (.t 0), .u 8 (.len (.t 7)), .u 9 (.mk 1 [(.lit (.int .u32 0))] (.t 8) (.t 8)), .m 5 (.t 9)])
 (.fg [0, 1, 5] (.seq (.seq (.ops false [.m 10 (.t 0), .u 11 (.len (.t 10)), .m 12 (.i 0)])
 (.fg [0, 1, 5, 11, 12] (.block 0 (.loop (.seq (.ops false [.u 13 (.bin .lss (.t 12) (.t 11))])
 (.fg [0, 1, 5, 11, 12, 13] (.seq (.cond (.t 13) .skip (.exit 0))
 (.fg [0, 1, 5, 11, 12] (.seq (.block 1 (.seq (.ops false [.m 14 (.t 12), .m 6 (.t 14)])
 (.fg [0, 1, 5, 6, 11, 12] (.ops true [.m 15 (.t 5), .m 16 (.t 6), .m 17 (.t 0), .m 18 (.t 6), .u 19 (.idx 1 (.t 17) (.t 18)), .u 20 (.ld none 1 false (.t 19)), .u 21 (.conv .u64 (.t 20)), .m 22 (.t 0), .m 23 (.t 6), .u 24 (.bin .add (.t 23) (.i 1)), .u 25 (.call f0 [(.t 22), (.t 24)]), .u 26 (.bin .shl (.t 25) (.c (.one (.lit (.int .u64 32))))), .u 27 (.bin .or (.t 21) (.t 26)), .m 28 (.t 1), .u 29 (.bin .shr (.t 27) (.t 28)), .u 30 (.conv .u32 (.t 29)), .u 31 (.idx 1 (.t 15) (.t 16)), .n (.st none 1 (.t 31) (.t 30))]))))
 (.fg [0, 1, 5, 11, 12] (.ops false [.u 32 (.bin .add (.t 12) (.i 1)), .m 12 (.t 32)])))))))))))
 (.fg [5] (.seq (.ops false [.m 33 (.t 5), .u 34 (.call f1 [(.t 33)]), .m 4 (.t 34)])
 .ret)))))))
def ac_integer_times (f0 : Nat) : AC := (.seq (.ops false [.m 4 (.c (.one .emp))])
 (.fg [0, 1] (.seq (.ops false [.m 11 (.t 0), .u 12 (.len (.t 11)), .m 13 (.t 1), .u 14 (.len (.t 13)), .u 15 (.bin .add (.t 12) (.t 14)), .u 16 (.mk 1 [(.lit (.int .u32 0))] (.t 15) (.t 15)), .m 5 (.t 16)])
 (.fg [0, 1, 5] (.seq (.seq (.ops false [.m 17 (.t 0), .u 18 (.len (.t 17)), .m 19 (.i 0)])
 (.fg [1, 5, 17, 18, 19] (.block 0 (.loop (.seq (.ops false [.u 20 (.bin .lss (.t 19) (.t 18))])
 (.fg [1, 5, 17, 18, 19, 20] (.seq (.cond (.t 20) .skip (.exit 0))
 (.fg [1, 5, 17, 18, 19] (.seq (.block 1 (.seq (.ops false [.m 21 (.t 19), .u 22 (.idx 1 (.t 17) (.t 19)), .u 23 (.ld none 1 false (.t 22)), .m 6 (.t 21), .m 7 (.t 23)])
 (.fg [1, 5, 6, 7, 17, 18, 19] (.seq (.ops false [.m 8 (.c (.one (.lit (.int .u64 0))))])
 (.fg [1, 5, 6, 7, 8, 17, 18, 19] (.seq (.seq (.ops false [.m 24 (.t 1), .u 25 (.len (.t 24)), .m 26 (.i 0)])
 (.fg [1, 5, 6, 7, 8, 17, 18, 19, 24, 25, 26] (.block 2 (.loop (.seq (.ops false [.u 27 (.bin .lss (.t 26) (.t 25))])
 (.fg [1, 5, 6, 7, 8, 17, 18, 19, 24, 25, 26, 27] (.seq (.cond (.t 27) .skip (.exit 2))
 (.fg [1, 5, 6, 7, 8, 17, 18, 19, 24, 25, 26] (.seq (.block 3 (.seq (.ops false [.m 28 (.t 26), .u 29 (.idx 1 (.t 24) (.t 26)), .u 30 (.ld none 1 false (.t 29)), .m 9 (.t 28), .m 10 (.t 30)])
 (.fg [1, 5, 6, 7, 8, 9, 10, 17, 18, 19, 24, 25, 26] (.seq (.ops false [.m 31 (.t 8), .m 32 (.t 7), .u 33 (.conv .u64 (.t 32)), .m 34 (.t 10), .u 35 (.conv .u64 (.t 34)), .u 36 (.bin .mul (.t 33) (.t 35)), .m 37 (.t 5), .m 38 (.t 6), .m 39 (.t 9), .u 40 (.bin .add (.t 38) (.t 39)), .u 41 (.idx 1 (.t 37) (.t 40)), .u 42 (.ld none 1 false (.t 41)), .u 43 (.conv .u64 (.t 42)), .u 44 (.bin .add (.t 36) (.t 43)), .u 45 (.bin .add (.t 31) (.t 44)), .m 8 (.t 45)])
 (.fg [1, 5, 6, 7, 8, 9, 17, 18, 19, 24, 25, 26] (.seq (.ops false [.m 46 (.t 5), .m 47 (.t 6), .m 48 (.t 9), .u 49 (.bin .add (.t 47) (.t 48)), .m 50 (.t 8), .u 51 (.conv .u32 (.t 50)), .u 52 (.idx 1 (.t 46) (.t 49)), .n (.st none 1 (.t 52) (.t 51))])
 (.fg [1, 5, 6, 7, 8, 17, 18, 19, 24, 25, 26] (.ops false [.m 53 (.t 8), .u 54 (.bin .shr (.t 53) (.c (.one (.lit (.int .u64 32))))), .m 8 (.t 54)]))))))))
 (.fg [1, 5, 6, 7, 8, 17, 18, 19, 24, 25, 26] (.ops false [.u 55 (.bin .add (.t 26) (.i 1)), .m 26 (.t 55)])))))))))))
 (.fg [1, 5, 6, 8, 17, 18, 19] (.ops false [.m 56 (.t 5), .m 57 (.t 6), .m 58 (.t 1), .u 59 (.len (.t 58)), .u 60 (.bin .add (.t 57) (.t 59)), .m 61 (.t 8), .u 62 (.conv .u32 (.t 61)), .u 63 (.idx 1 (.t 56) (.t 60)), .n (.st none 1 (.t 63) (.t 62))]))))))))
 (.fg [1, 5, 17, 18, 19] (.ops false [.u 64 (.bin .add (.t 19) (.i 1)), .m 19 (.t 64)])))))))))))
 (.fg [5] (.seq (.ops false [.m 65 (.t 5), .u 66 (.call f0 [(.t 65)]), .m 4 (.t 66)])
 .ret)))))))
theorem up_sound (hΓ : Holds P Γ) {f : Nat} (hc : check P f = some (41, ac_integer_up.strip, [.tmp 4])) : Sound P f (.fresh 1 up_G) := by
 refine sound_fresh hc up_good hΓ (fun args K hcl hfi hG => ?_)
 match args, hG with
 | [a, b], hG =>
  obtain ⟨x, rfl, hx, hG⟩ := hG
  obtain ⟨k, m, rfl, rfl, hm, hmB, hxl, hK⟩ := asInt_inv hG
  obtain ⟨m, rfl⟩ : ∃ n : Nat, m = n := ⟨m.toNat, by omega⟩
  simp only [Int.toNat_natCast] at hK
  refine ⟨by simp, ?_⟩
  simp only [go_sem, ac_integer_up]
  intro h1
  refine ⟨by omega, by omega, fun _ => ?_⟩
  refine wpA_loop (fun p : List Nat × Nat => ⟨mkV [(1, .one (.lit (.int .i64 m))), (5, .one (.own 12 1 1 0 (x.length + 1))), (13, wsA x), (14, .one (.lit (.int .i64 x.length))), (15, .one (.lit (.int .i64 p.1.length)))], mkH [(12, ⟨1, some ⟨(p.1 ++ p.2 :: List.replicate (x.length - p.1.length) 0).map wc, 1, true⟩⟩)]⟩)
   (fun p => p.1.length ≤ x.length ∧ WL p.1 ∧ p.2 < 2 ^ m ∧ val p.1 + 4294967296 ^ p.1.length * p.2 = val (x.take p.1.length) * 2 ^ m) (fun p => x.length - p.1.length) ([], 0) ?_ ?_ ?_
  ·exact weak_lit (by simp [okS, okV, okC, okL, okH, okB, okE, mkV_cons, mkV_nil, mkH_cons, mkH_nil, wsA, ws]) (okH_1 (by simp [List.replicate_succ]))
  ·simp [WL_nil, val]; exact Nat.pow_pos (by omega)
  ·rintro ⟨o, c⟩ ⟨hoN, ho, hc1, hval⟩
   simp only at hoN ho hc1 hval
   have hlen : (o ++ c :: List.replicate (x.length - o.length) 0).length = x.length + 1 := by simp; omega
   simp only [go_sem, hlen, List.length_set]
   refine ⟨fun hlt => ?_, fun hge => ?_⟩
   ·have g1 := WL_getD hx o.length
    obtain ⟨s1, s2, s3, s4⟩ := up_step (by omega) hc1 g1
    have e1 : x.getD o.length 0 % 18446744073709551616 = x.getD o.length 0 := by omega
    have hp := pow2_lt (show m < 32 by omega)
    rw [get_at, e1, Nat.mod_eq_of_lt s1, s2, put_at]
    generalize hy : x.getD o.length 0 * 2 ^ m = y at s1 s2 s3 s4
    rw [Nat.mod_eq_of_lt (show y / 4294967296 < 4294967296 by omega)]
    refine ⟨hlt, ⟨rfl, by omega⟩, by omega, by omega, ⟨rfl, by omega, by omega⟩, by omega, by omega, by omega, by omega, by omega, by omega, by omega, (o ++ [y % 4294967296 + c], y / 4294967296), weak_lit (by simp [okS, okV, okC, okL, okH, okB, okE, mkV_cons, mkV_nil, mkH_cons, mkH_nil, wsA, ws]) (okH_1 ?_), ⟨by simp; omega, WL_append.2 ⟨ho, WL_cons.2 ⟨s3, WL_nil⟩⟩, s4, ?_⟩, by simp; omega⟩
    ·rw [show x.length - o.length = (x.length - (o.length + 1)) + 1 by omega, List.replicate_succ, put_at1]; simp
    ·simp only [List.length_append, List.length_cons, List.length_nil, Nat.zero_add, take_succ, val_append, val_cons, val_nil, Nat.mul_zero, Nat.add_zero, Nat.pow_succ]
     rw [up_aux (B := 4294967296) (x := y) hval rfl, Nat.add_mul, ← hy, Nat.mul_assoc]
   ·have e : o.length = x.length := by omega
    have hcB : c < 4294967296 := by have := pow2_lt (show m < 32 by omega); omega
    rw [e, take_all (Nat.le_refl _)] at hval
    simp only [e, Nat.sub_self, List.replicate_zero]
    have hw : WL (o ++ [c]) := WL_append.2 ⟨ho, WL_cons.2 ⟨hcB, WL_nil⟩⟩
    have hv : val (o ++ [c]) = val x * 2 ^ m := by rw [val_append, e]; simpa [val] using hval
    have := dig_val hw
    rw [hv, List.length_append, List.length_singleton, e] at this
    rw [← this]; exact hK
theorem down_sound (hΓ : Holds P Γ) {f fw ft : Nat} (hw : Γ fw = .dat true word_G) (ht : Γ ft = .dat false trim_G) (hc : check P f = some (35, (ac_integer_down fw ft).strip, [.tmp 4])) : Sound P f (.dat false down_G) := by
 refine sound_dat hc down_good hΓ (fun args K hcl hfi hG => ?_)
 match args, hG with
 | [a, b], hG =>
  obtain ⟨x, rfl, hx, hG⟩ := hG
  obtain ⟨k, m, rfl, rfl, hm, hmB, hxl, hK⟩ := asInt_inv hG
  obtain ⟨m, rfl⟩ : ∃ n : Nat, m = n := ⟨m.toNat, by omega⟩
  simp only [Int.toNat_natCast] at hK
  refine ⟨by simp, ?_⟩
  simp only [go_sem, ac_integer_down, hw, ht]
  intro h1
  refine ⟨by omega, fun _ => ?_⟩
  refine wpA_loop (fun o : List Nat => ⟨mkV [(0, wsA x), (1, .one (.lit (.int .i64 m))), (5, .one (.own 9 1 1 0 x.length)), (11, .one (.lit (.int .i64 x.length))), (12, .one (.lit (.int .i64 o.length)))], mkH [(9, ⟨1, some ⟨(o ++ List.replicate (x.length - o.length) 0).map wc, 1, true⟩⟩)]⟩)
   (fun o => o.length ≤ x.length ∧ WL o ∧ val o = val x / 2 ^ m % 4294967296 ^ o.length) (fun o => x.length - o.length) [] ?_ ?_ ?_
  ·exact weak_lit (by simp [okS, okV, okC, okL, okH, okB, okE, mkV_cons, mkV_nil, mkH_cons, mkH_nil, wsA, ws]) (okH_1 (by simp))
  ·simp [WL_nil, val, Nat.mod_one]
  ·rintro o ⟨hoN, ho, hval⟩
   have hlen : (o ++ List.replicate (x.length - o.length) 0).length = x.length := by simp; omega
   simp only [go_sem, hw, ht, hlen]
   refine ⟨fun hlt => ⟨hlt, by omega, hx, ⟨rfl, by omega⟩, ⟨rfl, by omega, by omega⟩, by omega, hlt, hlt, by omega, ?_⟩, fun hge => ?_⟩
   ·have g1 := WL_getD hx o.length
    have g2 := WL_getD hx (o.length + 1)
    have e1 : x.getD o.length 0 % 18446744073709551616 = x.getD o.length 0 := by omega
    have e2 : x.getD (o.length + 1) 0 * 4294967296 % 18446744073709551616 = x.getD (o.length + 1) 0 * 4294967296 := by omega
    rw [e1, e2, or32' _ _ g1, show x.getD (o.length + 1) 0 * 4294967296 + x.getD o.length 0 = x.getD o.length 0 + 4294967296 * x.getD (o.length + 1) 0 by omega, down_step hx (by omega)]
    generalize hv : val x / 2 ^ m / 4294967296 ^ o.length % 4294967296 = v
    have hvB : v < 4294967296 := by rw [← hv]; exact Nat.mod_lt _ (by omega)
    refine ⟨o ++ [v], weak_lit (by simp [okS, okV, okC, okL, okH, okB, okE, mkV_cons, mkV_nil, mkH_cons, mkH_nil, wsA, ws]) (okH_1 ?_), ⟨by simp; omega, WL_append.2 ⟨ho, WL_cons.2 ⟨hvB, WL_nil⟩⟩, ?_⟩, by simp; omega⟩
    ·rw [show x.length - o.length = x.length - (o.length + 1) + 1 by omega, rep_set]; simp
    ·rw [val_append, List.length_append, List.length_singleton, mod_pow_succ, hv, ← hval]; simp [val]
   ·have e : o.length = x.length := by omega
    have hlt : val x / 2 ^ m < 4294967296 ^ x.length := Nat.lt_of_le_of_lt (Nat.div_le_self _ _) (val_lt hx)
    rw [e, Nat.mod_eq_of_lt hlt] at hval
    simp only [e, Nat.sub_self, List.replicate_zero, List.append_nil]
    refine ⟨ho, by omega, ?_⟩
    rw [hval]; exact hK
theorem times_sound (hΓ : Holds P Γ) {f ft : Nat} (ht : Γ ft = .dat false trim_G) (hc : check P f = some (67, (ac_integer_times ft).strip, [.tmp 4])) : Sound P f (.dat false times_G) := by
 refine sound_dat hc times_good hΓ (fun args K hcl hfi hG => ?_)
 match args, hG with
 | [a, b], hG =>
  obtain ⟨x, rfl, hx, y, rfl, hy, hxl, hyl, hK⟩ := hG
  refine ⟨by simp, ?_⟩
  simp only [go_sem, ac_integer_times, ht]
  intro h1 h2
  refine ⟨by omega, by omega, fun _ => ?_⟩
  generalize hN : x.length + y.length = N
  refine wpA_loop (fun p : Nat × List Nat => ⟨mkV [(1, wsA y), (5, .one (.own 16 1 1 0 N)), (17, wsA x), (18, .one (.lit (.int .i64 x.length))), (19, .one (.lit (.int .i64 p.1)))], mkH [(16, ⟨1, some ⟨p.2.map wc, 1, true⟩⟩)]⟩)
   (fun p => p.1 ≤ x.length ∧ WL p.2 ∧ p.2.length = N ∧ val p.2 = val (x.take p.1) * val y ∧ ∀ j, p.1 + y.length ≤ j → p.2.getD j 0 = 0) (fun p => x.length - p.1) (0, List.replicate N 0) ?_ ?_ ?_
  ·exact weak_lit (by simp [okS, okV, okC, okL, okH, okB, okE, mkV_cons, mkV_nil, mkH_cons, mkH_nil, wsA, ws]) (okH_1 (by simp))
  ·simp [WL_rep, val, val_rep]; intro j _; rw [List.getElem?_replicate]; split <;> rfl
  ·rintro ⟨i, o⟩ ⟨hi, ho, hoN, hval, hz⟩
   simp only at hi ho hoN hval hz
   simp only [go_sem, ht, hoN]
   refine ⟨fun hlt => ⟨hlt, fun _ => ?_⟩, fun hge => ?_⟩
   ·have g1 := WL_getD hx i
    refine wpA_loop (fun p : Nat × Nat × List Nat => ⟨mkV [(1, wsA y), (5, .one (.own 16 1 1 0 N)), (6, .one (.lit (.int .i64 i))), (7, .one (.lit (.int .u32 (x.getD i 0 : Nat)))), (8, .one (.lit (.int .u64 p.2.1))), (17, wsA x), (18, .one (.lit (.int .i64 x.length))), (19, .one (.lit (.int .i64 i))), (24, wsA y), (25, .one (.lit (.int .i64 y.length))), (26, .one (.lit (.int .i64 p.1)))], mkH [(16, ⟨1, some ⟨p.2.2.map wc, 1, true⟩⟩)]⟩)
     (fun p => p.1 ≤ y.length ∧ p.2.1 < 4294967296 ∧ WL p.2.2 ∧ p.2.2.length = N ∧ val p.2.2 + 4294967296 ^ i * 4294967296 ^ p.1 * p.2.1 = val (x.take i) * val y + 4294967296 ^ i * x.getD i 0 * val (y.take p.1) ∧ ∀ j, i + y.length ≤ j → p.2.2.getD j 0 = 0) (fun p => y.length - p.1) (0, 0, o) ?_ ?_ ?_
    ·exact weak_lit (by simp [okS, okV, okC, okL, okH, okB, okE, mkV_cons, mkV_nil, mkH_cons, mkH_nil, wsA, ws]) (okH_1 rfl)
    ·exact ⟨Nat.zero_le _, by simp, ho, hoN, by simp [val, hval], hz⟩
    ·rintro ⟨k, c, o⟩ ⟨hk, hc, ho, hoN, hval, hz⟩
     simp only at hk hc ho hoN hval hz
     simp only [go_sem, ht, hoN]
     refine ⟨fun hlt2 => ?_, fun hge2 => ?_⟩
     ·have g2 := WL_getD hy k
      have g3 := WL_getD ho (i + k)
      have s1 := mul_lt64 g1 g2 hc g3
      have e1 : x.getD i 0 % 18446744073709551616 = x.getD i 0 := by omega
      have e2 : y.getD k 0 % 18446744073709551616 = y.getD k 0 := by omega
      have e3 : o.getD (i + k) 0 % 18446744073709551616 = o.getD (i + k) 0 := by omega
      have hstep := times_step hval (by omega) rfl
      rw [e1, e2, e3, Nat.mod_eq_of_lt (show x.getD i 0 * y.getD k 0 < 18446744073709551616 by omega), Nat.mod_eq_of_lt (show x.getD i 0 * y.getD k 0 + o.getD (i + k) 0 < 18446744073709551616 by omega), Nat.mod_eq_of_lt s1]
      generalize hs : c + (x.getD i 0 * y.getD k 0 + o.getD (i + k) 0) = s at s1 hstep
      refine ⟨hlt2, by omega, by omega, by omega, by omega, by omega, by omega, by omega, by omega, (k + 1, s / 4294967296, o.set (i + k) (s % 4294967296)), weak_lit (by simp [okS, okV, okC, okL, okH, okB, okE, mkV_cons, mkV_nil, mkH_cons, mkH_nil, wsA, ws]) (okH_1 rfl), ⟨by simp only; omega, by simp only; omega, WL_set ho _ (Nat.mod_lt _ (by omega)), by simp [hoN], hstep, ?_⟩, by simp only; omega⟩
      intro j hj
      simp only
      rw [Num.getD_set_ne (by omega)]; exact hz j hj
     ·have e : k = y.length := by omega
      subst e
      have hend := times_end hval (by omega) (hz _ (Nat.le_refl _))
      rw [Nat.mod_eq_of_lt hc]
      refine fun _ => ⟨by omega, by omega, by omega, by omega, (i + 1, o.set (i + y.length) c), weak_lit (by simp [okS, okV, okC, okL, okH, okB, okE, mkV_cons, mkV_nil, mkH_cons, mkH_nil, wsA, ws]) (okH_1 rfl), ⟨by simp only; omega, WL_set ho _ hc, by simp [hoN], hend, ?_⟩, by simp only; omega⟩
      intro j hj
      simp only at hj ⊢
      rw [Num.getD_set_ne (by omega)]; exact hz j (by omega)
   ·have e : i = x.length := by omega
    subst e
    rw [take_all (Nat.le_refl _)] at hval
    refine ⟨ho, by omega, ?_⟩
    rw [hval]; exact hK
end Go.Abs
end
section
set_option linter.unusedVariables false
set_option linter.unusedSimpArgs false
set_option maxRecDepth 100000
namespace Go.Abs
open Go.Num
variable {P : Program} {Γ : Nat → Spec}
def ac_integer_remove (f0 : Nat) : AC := (.seq (.ops false [.m 6 .fa])
 (.fg [0, 1, 2] (.seq (.ops false [.m 7 (.c (.one (.lit (.int .u64 0)))), .m 8 (.c (.one (.lit (.int .u64 0))))])
 (.fg [0, 1, 2, 7, 8] (.seq (.seq (.ops false [.m 11 (.t 0), .u 12 (.len (.t 11)), .m 13 (.i 0)])
 (.fg [0, 1, 2, 7, 8, 12, 13] (.block 0 (.loop (.seq (.ops false [.u 14 (.bin .lss (.t 13) (.t 12))])
 (.fg [0, 1, 2, 7, 8, 12, 13, 14] (.seq (.cond (.t 14) .skip (.exit 0))
 (.fg [0, 1, 2, 7, 8, 12, 13] (.seq (.block 1 (.seq (.ops false [.m 15 (.t 13), .m 9 (.t 15)])
 (.fg [0, 1, 2, 7, 8, 9, 12, 13] (.seq (.ops false [.m 16 (.t 7), .m 17 (.t 2), .m 18 (.t 1), .m 19 (.t 9), .u 20 (.call f0 [(.t 18), (.t 19)]), .u 21 (.bin .mul (.t 17) (.t 20)), .u 22 (.bin .add (.t 16) (.t 21)), .m 7 (.t 22)])
 (.fg [0, 1, 2, 7, 8, 9, 12, 13] (.seq (.ops false [.m 23 (.t 0), .m 24 (.t 9), .u 25 (.idx 1 (.t 23) (.t 24)), .u 26 (.ld none 1 false (.t 25)), .u 27 (.conv .u64 (.t 26)), .m 28 (.t 7), .u 29 (.conv .u32 (.t 28)), .u 30 (.conv .u64 (.t 29)), .u 31 (.bin .sub (.t 27) (.t 30)), .m 32 (.t 8), .u 33 (.bin .sub (.t 31) (.t 32)), .m 10 (.t 33)])
 (.fg [0, 1, 2, 7, 9, 10, 12, 13] (.seq (.ops false [.m 34 (.t 0), .m 35 (.t 9), .m 36 (.t 10), .u 37 (.conv .u32 (.t 36)), .u 38 (.idx 1 (.t 34) (.t 35)), .n (.st none 1 (.t 38) (.t 37))])
 (.fg [0, 1, 2, 7, 10, 12, 13] (.seq (.ops false [.m 39 (.t 10), .u 40 (.bin .shr (.t 39) (.c (.one (.lit (.int .u64 63))))), .m 8 (.t 40)])
 (.fg [0, 1, 2, 7, 8, 12, 13] (.ops false [.m 41 (.t 7), .u 42 (.bin .shr (.t 41) (.c (.one (.lit (.int .u64 32))))), .m 7 (.t 42)]))))))))))))
 (.fg [0, 1, 2, 7, 8, 12, 13] (.ops false [.u 43 (.bin .add (.t 13) (.i 1)), .m 13 (.t 43)])))))))))))
 (.fg [8] (.seq (.ops false [.m 44 (.t 8), .u 45 (.bin .eql (.t 44) (.c (.one (.lit (.int .u64 1))))), .m 6 (.t 45)])
 .ret)))))))
def ac_integer_back (f0 : Nat) : AC := (.seq (.ops false [.m 4 (.c (.one (.lit (.int .u64 0))))])
 (.fg [0, 1, 4] (.seq (.ops false [.m 6 (.t 0), .u 7 (.len (.t 6)), .m 8 (.i 0)])
 (.fg [0, 1, 4, 7, 8] (.block 0 (.loop (.seq (.ops false [.u 9 (.bin .lss (.t 8) (.t 7))])
 (.fg [0, 1, 4, 7, 8, 9] (.seq (.cond (.t 9) .skip (.exit 0))
 (.fg [0, 1, 4, 7, 8] (.seq (.block 1 (.seq (.ops false [.m 10 (.t 8), .m 5 (.t 10)])
 (.fg [0, 1, 4, 5, 7, 8] (.seq (.ops true [.m 11 (.t 4), .m 12 (.t 0), .m 13 (.t 5), .u 14 (.idx 1 (.t 12) (.t 13)), .u 15 (.ld none 1 false (.t 14)), .u 16 (.conv .u64 (.t 15)), .m 17 (.t 1), .m 18 (.t 5), .u 19 (.call f0 [(.t 17), (.t 18)]), .u 20 (.bin .add (.t 16) (.t 19)), .u 21 (.bin .add (.t 11) (.t 20)), .m 4 (.t 21)])
 (.fg [0, 1, 4, 5, 7, 8] (.seq (.ops false [.m 22 (.t 0), .m 23 (.t 5), .m 24 (.t 4), .u 25 (.conv .u32 (.t 24)), .u 26 (.idx 1 (.t 22) (.t 23)), .n (.st none 1 (.t 26) (.t 25))])
 (.fg [0, 1, 4, 7, 8] (.ops false [.m 27 (.t 4), .u 28 (.bin .shr (.t 27) (.c (.one (.lit (.int .u64 32))))), .m 4 (.t 28)]))))))))
 (.fg [0, 1, 4, 7, 8] (.ops false [.u 29 (.bin .add (.t 8) (.i 1)), .m 8 (.t 29)])))))))))))))
theorem remove_sound (hΓ : Holds P Γ) {f fw : Nat} (hw : Γ fw = .dat true word_G) (hc : check P f = some (46, (ac_integer_remove fw).strip, [.tmp 6])) : Sound P f (.own remove_G) := by
 refine sound_own hc hΓ (fun d args h K hG => ?_)
 unfold remove_G at hG
 split at hG
 case h_2 => exact hG.elim
 rename_i r ver off len b n
 obtain ⟨v, rfl, hv, pre, seg, post, m, rfl, rfl, rfl, hr, hseg, hm, hvl, hlt, hsl, hK⟩ := hG
 refine ⟨[r], [⟨(pre ++ seg ++ post).map wc, 1, true⟩], [.one (.own 1048576 ver 1 pre.length seg.length), wsA v, .one (.lit (.int .u64 m))], by simp, rfl, ?_, ?_, ?_, fun hfi => ⟨by simp, ?_⟩⟩
 ·intro i r' b h1 h2
  cases i with
  | zero => simp only [List.getElem?_cons_zero, Option.some.injEq] at h1 h2; subst h1 h2; exact ⟨by rw [hr], rfl, of_eq_true (clean_ws _)⟩
  | succ i => simp at h1
 ·simp [exA, exC, exB, nameOf, pinA, wsA, ws]
 ·intro a ha
  simp only [List.mem_cons, List.not_mem_nil, or_false] at ha
  rcases ha with rfl | rfl | rfl
  ·simp [pasA, pasC, pasB, nameOf, pinA]
  ·exact .slice _ (of_eq_true (clean_ws _))
  ·exact .lit _
 simp only [go_sem, ac_integer_remove, hw, hr]
 intro h1
 refine wpA_loop (fun p : List Nat × Nat × Nat × Nat => ⟨mkV [(0, .one (.own 1048576 ver 1 pre.length seg.length)), (1, wsA v), (2, .one (.lit (.int .u64 m))), (7, .one (.lit (.int .u64 p.2.1))), (8, .one (.lit (.int .u64 p.2.2.1))), (12, .one (.lit (.int .i64 seg.length))), (13, .one (.lit (.int .i64 p.1.length)))],
   mkH [(1048576, ⟨ver, some ⟨(pre ++ (p.1 ++ seg.drop p.1.length) ++ post).map wc, 1, true⟩⟩)]⟩)
  (fun p => p.1.length ≤ seg.length ∧ WL p.1 ∧ (p.2.1 = 0 ∨ p.2.1 < m) ∧ p.2.2.1 ≤ 1 ∧ p.2.2.2 + 4294967296 ^ p.1.length * p.2.1 = m * val (v.take p.1.length) ∧ val p.1 + p.2.2.2 = val (seg.take p.1.length) + 4294967296 ^ p.1.length * p.2.2.1) (fun p => seg.length - p.1.length) ([], 0, 0, 0) ?_ ?_ ?_
 ·exact weak_lit (by simp [okS, okV, okC, okL, okH, okB, okE, mkV_cons, mkV_nil, mkH_cons, mkH_nil, wsA, ws]) (okH_1 (by simp))
 ·simp [WL_nil, val]
 ·rintro ⟨o, c, bw, p⟩ ⟨hoN, ho, hc1, hb1, hp1, hp2⟩
  simp only at hoN ho hc1 hb1 hp1 hp2
  have hlen : (pre ++ (o ++ seg.drop o.length) ++ post).length = pre.length + seg.length + post.length := by simp; omega
  simp only [go_sem, hw, hr, hlen]
  refine ⟨fun hlt2 => ?_, fun hge => ?_⟩
  ·have g1 := WL_getD hseg o.length
   have g2 := WL_getD hv o.length
   obtain ⟨s1, s2⟩ := rem_carry hm g2 hc1
   have a1 := rem_aux1 (B := 4294967296) (v := v.getD o.length 0) hp1
   have e1 : m * v.getD o.length 0 % 18446744073709551616 = m * v.getD o.length 0 := Nat.mod_eq_of_lt (by omega)
   have e2 : seg.getD o.length 0 % 18446744073709551616 = seg.getD o.length 0 := by omega
   rw [get_mid _ _ _ _ hlt2, e1, e2, Nat.mod_eq_of_lt s1, set_mid _ _ _ _ _ hlt2]
   generalize hs : c + m * v.getD o.length 0 = s at s1 s2 a1
   have e3 : s % 4294967296 % 18446744073709551616 = s % 4294967296 := by omega
   rw [e3]
   obtain ⟨t1, t2⟩ := sub_step (b := s % 4294967296) g1 (by omega) hb1
   generalize sub64 (sub64 (seg.getD o.length 0) (s % 4294967296)) bw = d at t1 t2
   have a2 := rem_aux2 hp2 t1
   refine ⟨hv, hlt2, by omega, hlt2, by omega, by omega, by omega, by omega, (o ++ [d % 4294967296], s / 4294967296, d / 9223372036854775808, p + 4294967296 ^ o.length * (s % 4294967296)), weak_lit (by simp [okS, okV, okC, okL, okH, okB, okE, mkV_cons, mkV_nil, mkH_cons, mkH_nil, wsA, ws]) (okH_1 rfl), ⟨by simp; omega, WL_append.2 ⟨ho, WL_cons.2 ⟨Nat.mod_lt _ (by omega), WL_nil⟩⟩, s2, t2, ?_, ?_⟩, by simp; omega⟩
   ·simp only [List.length_append, List.length_cons, List.length_nil, Nat.zero_add, take_succ, Nat.pow_succ]
    exact a1
   ·simp only [List.length_append, List.length_cons, List.length_nil, Nat.zero_add, take_succ, val_append, val_cons, val_nil, Nat.mul_zero, Nat.add_zero, Nat.pow_succ]
    exact a2
  ·have e : o.length = seg.length := by omega
   rw [e] at hp1 hp2
   rw [take_all hvl] at hp1
   rw [take_all (Nat.le_refl _)] at hp2
   obtain ⟨t1, t2⟩ := rem_end ho e hp1 hlt hp2 hb1
   rw [List.drop_of_length_le (by omega), List.append_nil]
   rw [← t1] at hK
   have : (decide ((bw : Int) = 1)) = decide (val seg < m * val v) := by
    rw [decide_eq_decide, ← t2]; omega
   rw [this]; exact hK
theorem back_sound (hΓ : Holds P Γ) {f fw : Nat} (hw : Γ fw = .dat true word_G) (hc : check P f = some (30, (ac_integer_back fw).strip, [])) : Sound P f (.own back_G) := by
 refine sound_own hc hΓ (fun d args h K hG => ?_)
 unfold back_G at hG
 split at hG
 case h_2 => exact hG.elim
 rename_i r ver off len b
 obtain ⟨v, rfl, hv, pre, seg, post, rfl, rfl, hr, hseg, hvl, hsl, hK⟩ := hG
 refine ⟨[r], [⟨(pre ++ seg ++ post).map wc, 1, true⟩], [.one (.own 1048576 ver 1 pre.length seg.length), wsA v], by simp, rfl, ?_, ?_, ?_, fun hfi => ⟨by simp, ?_⟩⟩
 ·intro i r' b h1 h2
  cases i with
  | zero => simp only [List.getElem?_cons_zero, Option.some.injEq] at h1 h2; subst h1 h2; exact ⟨by rw [hr], rfl, of_eq_true (clean_ws _)⟩
  | succ i => simp at h1
 ·simp [exA, exC, exB, nameOf, pinA, wsA, ws]
 ·intro a ha
  simp only [List.mem_cons, List.not_mem_nil, or_false] at ha
  rcases ha with rfl | rfl
  ·simp [pasA, pasC, pasB, nameOf, pinA]
  ·exact .slice _ (of_eq_true (clean_ws _))
 simp only [go_sem, ac_integer_back, hw, hr]
 intro h1
 refine wpA_loop (fun p : List Nat × Nat => ⟨mkV [(0, .one (.own 1048576 ver 1 pre.length seg.length)), (1, wsA v), (4, .one (.lit (.int .u64 p.2))), (7, .one (.lit (.int .i64 seg.length))), (8, .one (.lit (.int .i64 p.1.length)))],
   mkH [(1048576, ⟨ver, some ⟨(pre ++ (p.1 ++ seg.drop p.1.length) ++ post).map wc, 1, true⟩⟩)]⟩)
  (fun p => p.1.length ≤ seg.length ∧ WL p.1 ∧ p.2 ≤ 1 ∧ val p.1 + 4294967296 ^ p.1.length * p.2 = val (seg.take p.1.length) + val (v.take p.1.length)) (fun p => seg.length - p.1.length) ([], 0) ?_ ?_ ?_
 ·exact weak_lit (by simp [okS, okV, okC, okL, okH, okB, okE, mkV_cons, mkV_nil, mkH_cons, mkH_nil, wsA, ws]) (okH_1 (by simp))
 ·simp [WL_nil, val]
 ·rintro ⟨o, c⟩ ⟨hoN, ho, hc1, hp1⟩
  simp only at hoN ho hc1 hp1
  have hlen : (pre ++ (o ++ seg.drop o.length) ++ post).length = pre.length + seg.length + post.length := by simp; omega
  simp only [go_sem, hw, hr, hlen]
  refine ⟨fun hlt2 => ?_, fun hge => ?_⟩
  ·have g1 := WL_getD hseg o.length
   have g2 := WL_getD hv o.length
   have e2 : seg.getD o.length 0 % 18446744073709551616 = seg.getD o.length 0 := by omega
   rw [get_mid _ _ _ _ hlt2, e2, Nat.mod_eq_of_lt (show seg.getD o.length 0 + v.getD o.length 0 < 18446744073709551616 by omega), Nat.mod_eq_of_lt (show c + (seg.getD o.length 0 + v.getD o.length 0) < 18446744073709551616 by omega), set_mid _ _ _ _ _ hlt2]
   have a1 := back_aux (B := 4294967296) (a := seg.getD o.length 0) (b := v.getD o.length 0) hp1 rfl
   generalize hs : c + (seg.getD o.length 0 + v.getD o.length 0) = s at a1
   refine ⟨hlt2, by omega, hv, hlt2, by omega, by omega, by omega, (o ++ [s % 4294967296], s / 4294967296), weak_lit (by simp [okS, okV, okC, okL, okH, okB, okE, mkV_cons, mkV_nil, mkH_cons, mkH_nil, wsA, ws]) (okH_1 rfl), ⟨by simp; omega, WL_append.2 ⟨ho, WL_cons.2 ⟨Nat.mod_lt _ (by omega), WL_nil⟩⟩, by simp only; omega, ?_⟩, by simp; omega⟩
   simp only [List.length_append, List.length_cons, List.length_nil, Nat.zero_add, take_succ, val_append, val_cons, val_nil, Nat.mul_zero, Nat.add_zero, Nat.pow_succ]
   exact a1
  ·have e : o.length = seg.length := by omega
   rw [e, take_all hvl, take_all (Nat.le_refl _)] at hp1
   have t1 := back_end ho e hp1
   rw [List.drop_of_length_le (by omega), List.append_nil]
   rw [← t1] at hK
   exact hK
end Go.Abs
end
section
set_option linter.unusedVariables false
namespace Go.Num
theorem dig_append : ∀ (a b X : Nat), dig (a + b) X = dig a X ++ dig b (X / 4294967296 ^ a)
 | 0, b, X => by simp [dig]
 | a + 1, b, X => by
  rw [show a + 1 + b = (a + b) + 1 by omega, dig, dig, dig_append a b, Nat.div_div_eq_div_mul, Nat.pow_succ, Nat.mul_comm 4294967296]; simp
theorem dig_zero : ∀ k, dig k 0 = List.replicate k 0
 | 0 => rfl
 | k + 1 => by rw [dig, Nat.zero_mod, Nat.zero_div, dig_zero k, List.replicate_succ]
theorem dig_get : ∀ (k i X : Nat), i < k → (dig k X).getD i 0 = X / 4294967296 ^ i % 4294967296
 | k + 1, 0, X, _ => by simp [dig]
 | k + 1, i + 1, X, h => by
  rw [dig, List.getD_cons_succ, dig_get k i _ (by omega), Nat.div_div_eq_div_mul, Nat.pow_succ, Nat.mul_comm 4294967296]
theorem dig_mod : ∀ (k X : Nat), dig k (X % 4294967296 ^ k) = dig k X := by
 intro k X
 refine val_inj (dig_WL _ _) (dig_WL _ _) (by rw [dig_length, dig_length]) ?_
 rw [val_dig, val_dig, Nat.mod_mod]
theorem dig_low {j X Y : Nat} : dig j (X % 4294967296 ^ j + 4294967296 ^ j * Y) = dig j X := by
 rw [← dig_mod, Nat.add_mul_mod_self_left, Nat.mod_mod, dig_mod]
theorem dig_split {L j n X : Nat} (h : j + (n + 1) ≤ L) (hX : X / 4294967296 ^ j < 4294967296 ^ (n + 1)) :
  dig L X = dig j X ++ dig (n + 1) (X / 4294967296 ^ j) ++ List.replicate (L - (j + (n + 1))) 0 := by
 conv => lhs; rw [show L = j + (n + 1) + (L - (j + (n + 1))) by omega]
 rw [dig_append, dig_append, Nat.pow_add, ← Nat.div_div_eq_div_mul, Nat.div_eq_of_lt hX, dig_zero]
theorem dig_join {L j n X R : Nat} (h : j + (n + 1) ≤ L) (hR : R < 4294967296 ^ (n + 1)) :
  dig j X ++ dig (n + 1) R ++ List.replicate (L - (j + (n + 1))) 0 = dig L (X % 4294967296 ^ j + 4294967296 ^ j * R) := by
 have e : (X % 4294967296 ^ j + 4294967296 ^ j * R) / 4294967296 ^ j = R := by
  rw [Nat.add_mul_div_left _ _ (pow_pos j), Nat.div_eq_of_lt (Nat.mod_lt _ (pow_pos j)), Nat.zero_add]
 rw [dig_split h (by rw [e]; exact hR), e, dig_low]
structure Step (B n V P top next head u2 : Nat) : Prop where
 hB : 2 ≤ B
 hn : 2 ≤ n
 vlow : ∃ l, V = (top * B + next) * B ^ (n - 2) + l ∧ l < B ^ (n - 2)
 plow : ∃ l, P = (head * B + u2) * B ^ (n - 2) + l ∧ l < B ^ (n - 2)
 nextB : next < B
 topB : top < B
 half : B ≤ 2 * top
 u2B : u2 < B
 lt : P < V * B
namespace Step
variable {B n V P top next head u2 : Nat}
theorem vpos (s : Step B n V P top next head u2) : 0 < V := by
 obtain ⟨l, h, _⟩ := s.vlow
 have : 0 < B ^ (n - 2) := Nat.pow_pos (by have := s.hB; omega)
 have h2 : 0 < top * B + next := by
  have := Nat.mul_pos (show 0 < top by have := s.half; have := s.hB; omega) (show 0 < B by have := s.hB; omega)
  omega
 have := Nat.mul_pos h2 this
 omega
theorem down (s : Step B n V P top next head u2) {g r : Nat} (hg : g * top + r = head) (h : B ≤ g ∨ r * B + u2 < g * next) : P / V < g := by
 rw [Nat.div_lt_iff_lt_mul s.vpos]
 rcases h with h | h
 ·have h1 := Nat.mul_le_mul_right V h
  have := s.lt
  rw [Nat.mul_comm V] at this
  omega
 ·obtain ⟨lv, hv, hlv⟩ := s.vlow
  obtain ⟨lp, hp, hlp⟩ := s.plow
  generalize B ^ (n - 2) = p at hv hlv hp hlp
  have h1 : head * B + u2 + 1 ≤ g * (top * B + next) := by
   rw [← hg]
   have : (g * top + r) * B = g * (top * B) + r * B := by rw [Nat.add_mul, Nat.mul_assoc]
   rw [this, Nat.mul_add]
   omega
  have h2 := Nat.mul_le_mul_right p h1
  rw [Nat.add_mul, Nat.one_mul] at h2
  have h3 : g * (top * B + next) * p ≤ g * V := by
   rw [Nat.mul_assoc]; exact Nat.mul_le_mul_left _ (by omega)
  omega
theorem stop (s : Step B n V P top next head u2) {g r : Nat} (hg : g * top + r = head) (hgB : g ≤ B) (h : B ≤ r ∨ (g < B ∧ g * next ≤ r * B + u2)) : g * V ≤ P + V := by
 obtain ⟨lv, hv, hlv⟩ := s.vlow
 obtain ⟨lp, hp, hlp⟩ := s.plow
 have hB := s.hB
 have hn := s.hn
 have hpp : 0 < B ^ (n - 2) := Nat.pow_pos (by omega)
 have h1 : g * (top * B + next) ≤ head * B + u2 := by
  rw [← hg, Nat.add_mul, Nat.mul_add, Nat.mul_assoc]
  rcases h with h | h
  ·have h3 : g * next ≤ B * B := Nat.mul_le_mul hgB (Nat.le_of_lt s.nextB)
   have h4 : B * B ≤ r * B := Nat.mul_le_mul_right _ h
   omega
  ·omega
 have hVtop : B * B ^ (n - 2) ≤ V := by
  have : B ≤ top * B := Nat.le_mul_of_pos_left _ (by have := s.half; omega)
  have := Nat.mul_le_mul_right (B ^ (n - 2)) (show B ≤ top * B + next by omega)
  omega
 generalize B ^ (n - 2) = p at hv hlv hp hlp hpp hVtop
 have h2 := Nat.mul_le_mul_right p h1
 have h5 : g * V ≤ g * ((top * B + next) * p) + g * p := by
  rw [hv, Nat.mul_add]; exact Nat.add_le_add_left (Nat.mul_le_mul_left _ (Nat.le_of_lt hlv)) _
 have h6 : g * p ≤ B * p := Nat.mul_le_mul_right _ hgB
 rw [← Nat.mul_assoc] at h5
 omega
theorem first (s : Step B n V P top next head u2) : head / top ≤ B + 1 ∧ P / V ≤ head / top := by
 have hB := s.hB
 have ht : 0 < top := by have := s.half; omega
 obtain ⟨lv, hv, hlv⟩ := s.vlow
 obtain ⟨lp, hp, hlp⟩ := s.plow
 have hlt := s.lt
 have hnext := s.nextB
 have hu2 := s.u2B
 constructor
 ·have h1 : head ≤ top * B + next := by
   rcases Nat.lt_or_ge (top * B + next) head with h | h
   ·exfalso
    have h2 := Nat.mul_le_mul_right (B ^ (n - 2)) (Nat.mul_le_mul_right B h)
    have h3 : (top * B + next + 1) * B * B ^ (n - 2) = ((top * B + next) * B ^ (n - 2) + B ^ (n - 2)) * B := by
     generalize B ^ (n - 2) = p
     grind
    rw [Nat.succ_eq_add_one, h3] at h2
    have h4 : V * B ≤ ((top * B + next) * B ^ (n - 2) + B ^ (n - 2)) * B := Nat.mul_le_mul_right _ (by omega)
    have h5 : head * B * B ^ (n - 2) ≤ P := by
     rw [hp, Nat.add_mul]; omega
    omega
   ·exact h
  have h2 : head < (B + 2) * top := by
   have := s.half
   have : (B + 2) * top = top * B + 2 * top := by rw [Nat.add_mul, Nat.mul_comm B]
   omega
  have := (Nat.div_lt_iff_lt_mul ht).2 h2
  omega
 ·have : P / V < head / top + 1 := by
   rw [Nat.div_lt_iff_lt_mul s.vpos]
   have h1 : head < (head / top + 1) * top := by
    have := Nat.div_add_mod head top
    have := Nat.mod_lt head ht
    rw [Nat.add_mul, Nat.one_mul, Nat.mul_comm (head / top)]
    omega
   have h2 : head + 1 ≤ (head / top + 1) * top := h1
   have h3 := Nat.mul_le_mul_right (B ^ (n - 2)) (Nat.mul_le_mul_right B h2)
   have h4 : (head / top + 1) * top * B * B ^ (n - 2) ≤ (head / top + 1) * V := by
    rw [Nat.mul_assoc, Nat.mul_assoc]
    refine Nat.mul_le_mul_left _ ?_
    rw [hv, Nat.add_mul, ← Nat.mul_assoc]
    omega
   have h5 : P < (head + 1) * B * B ^ (n - 2) := by
    rw [hp]
    have : (head * B + u2 + 1) * B ^ (n - 2) ≤ (head + 1) * B * B ^ (n - 2) := Nat.mul_le_mul_right _ (by rw [Nat.add_mul, Nat.one_mul]; omega)
    rw [Nat.add_mul, Nat.one_mul] at this
    omega
   omega
  omega
theorem left (s : Step B n V P top next head u2) {g : Nat} (h1 : P / V ≤ g) (h2 : g * V ≤ P + V) :
  (P < g * V → g = P / V + 1) ∧ (¬ P < g * V → g = P / V) := by
 have hv := s.vpos
 have e := Nat.div_add_mod P V
 have m := Nat.mod_lt P hv
 constructor
 ·intro h
  have h3 : g ≤ P / V + 1 := by
   rcases Nat.lt_or_ge (P / V + 1) g with h4 | h4
   ·exfalso
    have := Nat.mul_le_mul_right V (show P / V + 2 ≤ g from h4)
    rw [Nat.add_mul, Nat.mul_comm (P / V)] at this
    omega
   ·exact h4
  have h5 : P / V < g := by rw [Nat.div_lt_iff_lt_mul hv]; exact h
  omega
 ·intro h
  have : g ≤ P / V := by rw [Nat.le_div_iff_mul_le hv]; omega
  omega
theorem quot (s : Step B n V P top next head u2) : P / V < B := by
 rw [Nat.div_lt_iff_lt_mul s.vpos, Nat.mul_comm]; exact s.lt
end Step
theorem dig_take (n k X : Nat) : (dig (n + k) X).take n = dig n X := by
 rw [dig_append, List.take_append_of_le_length (by rw [dig_length]; exact Nat.le_refl _), List.take_of_length_le (by rw [dig_length]; exact Nat.le_refl _)]
theorem bitLen_log {t : Nat} (h0 : 0 < t) (h : t < 4294967296) : Lib.bitLen t = Nat.log2 t + 1 := by
 have h1 : 2 ^ Nat.log2 t ≤ t := Nat.log2_self_le (by omega)
 have h2 : t < 2 ^ (Nat.log2 t + 1) := Nat.lt_log2_self
 rw [Lib.bitLen_shift _ _ h1 (by omega)]
 have : t / 2 ^ Nat.log2 t = 1 := by
  rw [Nat.pow_succ] at h2
  have hp : 0 < 2 ^ Nat.log2 t := Nat.pow_pos (by omega)
  generalize 2 ^ Nat.log2 t = p at h1 h2 hp
  have a : t / p < 2 := (Nat.div_lt_iff_lt_mul hp).2 (by omega)
  have b : 1 ≤ t / p := (Nat.le_div_iff_mul_le hp).2 (by omega)
  omega
 rw [this]; rfl
theorem lz_spec {t : Nat} (h0 : 0 < t) (h : t < 4294967296) : ∃ s : Nat, s < 32 ∧ (32 - (Lib.bitLen t : Int)) = s ∧ 2147483648 ≤ t * 2 ^ s ∧ (t + 1) * 2 ^ s ≤ 4294967296 := by
 have h1 : 2 ^ Nat.log2 t ≤ t := Nat.log2_self_le (by omega)
 have h2 : t < 2 ^ (Nat.log2 t + 1) := Nat.lt_log2_self
 have hl : Nat.log2 t < 32 := by rw [Nat.log2_lt (by omega)]; exact h
 rw [bitLen_log h0 h]
 refine ⟨31 - Nat.log2 t, by omega, by omega, ?_, ?_⟩
 ·have := Nat.mul_le_mul_right (2 ^ (31 - Nat.log2 t)) h1
  rw [← Nat.pow_add, show Nat.log2 t + (31 - Nat.log2 t) = 31 by omega] at this
  exact this
 ·have := Nat.mul_le_mul_right (2 ^ (31 - Nat.log2 t)) (show t + 1 ≤ _ from h2)
  rw [← Nat.pow_add, show Nat.log2 t + 1 + (31 - Nat.log2 t) = 32 by omega] at this
  exact this
theorem shifted {y : List Nat} {s : Nat} (hy : WL y) (hn : 0 < y.length) (h1 : 2147483648 ≤ y.getD (y.length - 1) 0 * 2 ^ s) (h2 : (y.getD (y.length - 1) 0 + 1) * 2 ^ s ≤ 4294967296) :
  val y * 2 ^ s < 4294967296 ^ y.length ∧ 4294967296 ^ y.length ≤ 2 * (val y * 2 ^ s) := by
 have e := val_split y (y.length - 1) (by omega)
 rw [List.drop_of_length_le (by omega), val_nil, Nat.mul_zero, Nat.add_zero] at e
 have hl := val_lt (WL_take hy (y.length - 1))
 rw [List.length_take, Nat.min_eq_left (by omega)] at hl
 rw [e, pow_pred hn]
 generalize y.getD (y.length - 1) 0 = t at *
 generalize 4294967296 ^ (y.length - 1) = p at *
 generalize val (y.take (y.length - 1)) = v at *
 have hs : 0 < 2 ^ s := Nat.pow_pos (by omega)
 generalize 2 ^ s = q at *
 have a1 := Nat.mul_le_mul_left p h1
 have a2 := Nat.mul_le_mul_left p h2
 have a3 := (Nat.mul_lt_mul_right hs).2 hl
 rw [Nat.add_mul, Nat.one_mul, Nat.mul_add] at a2
 rw [Nat.add_mul, Nat.mul_assoc p t q]
 constructor
 ·omega
 ·have : 2 * (p * 2147483648) = p * (2 * 2147483648) := Nat.mul_left_comm _ _ _
  rw [show 2 * 2147483648 = 4294967296 from rfl] at this
  rw [← this]
  exact Nat.mul_le_mul_left 2 (Nat.le_trans a1 (Nat.le_add_left _ _))
theorem start_lt {x y : List Nat} {s : Nat} (hx : WL x) (hs : s < 32) (hV : 4294967296 ^ y.length ≤ 2 * (val y * 2 ^ s)) (hl : y.length ≤ x.length + 1) :
  val x * 2 ^ s < val y * 2 ^ s * 4294967296 ^ (x.length + 1 - y.length) := by
 have h1 := val_lt hx
 have h2 := pow2_lt hs
 have h3 : 4294967296 ^ x.length * 4294967296 = 4294967296 ^ y.length * 4294967296 ^ (x.length + 1 - y.length) := by
  rw [← Nat.pow_succ, ← Nat.pow_add]; congr 1; omega
 have h4 := Nat.mul_le_mul_right (4294967296 ^ (x.length + 1 - y.length)) hV
 rw [← h3, Nat.mul_assoc] at h4
 have h5 : val x * 2 ^ s < 4294967296 ^ x.length * 2147483648 :=
  Nat.lt_of_lt_of_le ((Nat.mul_lt_mul_right (Nat.pow_pos (by omega))).2 h1) (Nat.mul_le_mul_left _ h2)
 omega
theorem step_of {n V P : Nat} (hn : 2 ≤ n) (hV1 : V < 4294967296 ^ n) (hV2 : 4294967296 ^ n ≤ 2 * V) (hP : P < V * 4294967296) :
  Step 4294967296 n V P (V / 4294967296 ^ (n - 1) % 4294967296) (V / 4294967296 ^ (n - 2) % 4294967296) (P / 4294967296 ^ n % 4294967296 * 4294967296 + P / 4294967296 ^ (n - 1) % 4294967296) (P / 4294967296 ^ (n - 2) % 4294967296) := by
 have e1 : 4294967296 ^ n = 4294967296 ^ (n - 1) * 4294967296 := pow_pred (by omega)
 have e2 : 4294967296 ^ (n - 1) = 4294967296 ^ (n - 2) * 4294967296 := by rw [pow_pred (show 0 < n - 1 by omega), show n - 1 - 1 = n - 2 by omega]
 have hp := pow_pos (n - 2)
 have ht : V / 4294967296 ^ (n - 1) < 4294967296 := by
  rw [Nat.div_lt_iff_lt_mul (pow_pos _), Nat.mul_comm, ← e1]; exact hV1
 have hh : P / 4294967296 ^ n < 4294967296 := by
  rw [Nat.div_lt_iff_lt_mul (pow_pos _)]
  have := (Nat.mul_lt_mul_right (show 0 < 4294967296 by omega)).2 hV1
  rw [Nat.mul_comm (4294967296 ^ n)] at this
  omega
 have q1 : V / 4294967296 ^ (n - 1) = V / 4294967296 ^ (n - 2) / 4294967296 := by rw [e2, Nat.div_div_eq_div_mul]
 have q2 : P / 4294967296 ^ (n - 1) = P / 4294967296 ^ (n - 2) / 4294967296 := by rw [e2, Nat.div_div_eq_div_mul]
 have q3 : P / 4294967296 ^ n = P / 4294967296 ^ (n - 1) / 4294967296 := by rw [e1, Nat.div_div_eq_div_mul]
 refine ⟨by omega, hn, ⟨V % 4294967296 ^ (n - 2), ?_, Nat.mod_lt _ hp⟩, ⟨P % 4294967296 ^ (n - 2), ?_, Nat.mod_lt _ hp⟩, Nat.mod_lt _ (by omega), Nat.mod_lt _ (by omega), ?_, Nat.mod_lt _ (by omega), hP⟩
 ·rw [Nat.mod_eq_of_lt ht, q1]
  rw [Nat.div_add_mod' (V / 4294967296 ^ (n - 2)), Nat.mul_comm]
  exact (Nat.div_add_mod _ _).symm
 ·rw [Nat.mod_eq_of_lt hh, q3, q2]
  rw [Nat.div_add_mod' (P / 4294967296 ^ (n - 2) / 4294967296), Nat.div_add_mod' (P / 4294967296 ^ (n - 2)), Nat.mul_comm]
  exact (Nat.div_add_mod _ _).symm
 ·rw [Nat.mod_eq_of_lt ht]
  have : 2147483648 ≤ V / 4294967296 ^ (n - 1) := by
   rw [Nat.le_div_iff_mul_le (pow_pos _)]
   rw [e1] at hV2
   generalize 4294967296 ^ (n - 1) = p at hV2 ⊢
   omega
  omega
theorem ordN_nlt {a b : Nat} (h : ¬ a < b) : (ordN a b < 0) = False := by
 unfold ordN; rw [if_neg h]; split <;> simp
theorem div_step {j X V A q Q : Nat} (hV : 0 < V) (hA : A = X + V * 4294967296 ^ (j + 1) * Q) (hq : q = X / 4294967296 ^ j / V) :
  A = (X % 4294967296 ^ j + 4294967296 ^ j * (X / 4294967296 ^ j % V)) + V * 4294967296 ^ j * (q + 4294967296 * Q) ∧ X % 4294967296 ^ j + 4294967296 ^ j * (X / 4294967296 ^ j % V) < V * 4294967296 ^ j := by
 have hp := pow_pos j
 rw [Nat.pow_succ] at hA
 generalize 4294967296 ^ j = p at *
 have e1 := Nat.div_add_mod X p
 have e2 := Nat.div_add_mod (X / p) V
 have m1 := Nat.mod_lt X hp
 have m2 := Nat.mod_lt (X / p) hV
 rw [← hq] at e2
 generalize X % p = r at *
 generalize hS : X / p % V = S at *
 generalize X / p = Z at *
 generalize 4294967296 = B at hA ⊢
 subst hA e2 e1
 constructor
 ·grind
 ·have : p * (S + 1) ≤ p * V := Nat.mul_le_mul_left _ m2
  rw [Nat.mul_add, Nat.mul_one] at this
  rw [Nat.mul_comm V]; omega
theorem dig_addpow (k X : Nat) : dig k (X + 4294967296 ^ k) = dig k X := by
 rw [← dig_mod, Nat.add_mod_right, dig_mod]
theorem left_0 {k P V g : Nat} (hg : g = P / V) : dig k (P + 4294967296 ^ k - g * V) = dig k (P % V) := by
 have e : g * V + P % V = P := by rw [hg, Nat.mul_comm]; exact Nat.div_add_mod P V
 clear hg
 generalize P % V = r at *
 generalize hp : 4294967296 ^ k = p
 rw [show P + p - g * V = r + p by omega, ← hp, dig_addpow]
theorem left_1 {k P V g : Nat} (hg : g = P / V + 1) (hb : P < g * V) (hk : g * V < 4294967296 ^ k) : dig k (val (dig k (P + 4294967296 ^ k - g * V)) + V) = dig k (P % V) := by
 have e : P / V * V + P % V = P := by rw [Nat.mul_comm]; exact Nat.div_add_mod P V
 have : g * V = P / V * V + V := by rw [hg, Nat.add_mul, Nat.one_mul]
 rw [val_dig, Nat.mod_eq_of_lt (by omega)]
 clear hg
 generalize P / V * V = q at *
 generalize P % V = r at *
 generalize g * V = gv at *
 generalize hp : 4294967296 ^ k = p at *
 rw [show P + p - gv + V = r + p by omega, ← hp, dig_addpow]
theorem mul_lt64' {a b : Nat} (ha : a < 4294967296) (hb : b < 4294967296) : a * b < 18446744073709551616 := by
 have h := mul_lt64 ha hb (c := 0) (d := 0) (by decide) (by decide)
 rwa [Nat.zero_add, Nat.add_zero] at h
theorem sub64_succ {q : Nat} (h : q < 4294967296) : sub64 (q + 1) 1 = q := by rw [sub64_le (by omega) (by omega)]; omega
theorem shl_mod {r : Nat} (h : r < 4294967296) : r * 4294967296 % 18446744073709551616 = r * 4294967296 := by omega
end Go.Num
end
section
set_option linter.unusedVariables false
set_option linter.unusedSimpArgs false
set_option maxRecDepth 100000
namespace Go.Abs
open Go.Num
variable {P : Program} {Γ : Nat → Spec}
def ac_integer_divide (f0 f1 f2 f3 f4 f5 f6 f7 : Nat) : AC := (.seq (.ops false [.m 4 (.c (.one .emp)), .m 5 (.c (.one .emp))])
 (.fg [0, 1] (.seq (.seq (.ops false [.m 19 (.t 0), .m 20 (.t 1), .u 21 (.call f0 [(.t 19), (.t 20)]), .u 22 (.bin .lss (.t 21) (.i 0))])
 (.fg [0, 1, 22] (.cond (.t 22) (.seq (.ops false [.m 23 (.t 0), .u 24 (.call f1 [(.t 23)]), .m 4 (.c (.one .emp)), .m 5 (.t 24)])
 .ret) .skip)))
 (.fg [0, 1] (.seq (.seq (.ops false [.m 25 (.t 1), .u 26 (.len (.t 25)), .u 27 (.bin .eql (.t 26) (.i 1))])
 (.fg [0, 1, 27] (.cond (.t 27) (.seq (.ops false [.m 29 (.t 0), .m 30 (.t 1), .u 31 (.idx 1 (.t 30) (.i 0)), .u 32 (.ld none 1 false (.t 31)), .u 33 (.call f2 [(.t 29), (.t 32)]), .m 28 (.t 33), .u 34 (.ext 0 (.t 28)), .u 35 (.ext 1 (.t 28)), .m 6 (.t 34), .m 7 (.t 35)])
 (.fg [6, 7] (.seq (.ops false [.m 36 (.t 6), .m 37 (.t 7), .u 38 (.row 1 [[.x 1 (.t 37)]]), .u 39 (.call f1 [(.t 38)]), .m 4 (.t 36), .m 5 (.t 39)])
 .ret))) .skip)))
 (.fg [0, 1] (.seq (.ops false [.m 40 (.t 1), .m 41 (.t 1), .u 42 (.len (.t 41)), .u 43 (.bin .sub (.t 42) (.i 1)), .u 44 (.idx 1 (.t 40) (.t 43)), .u 45 (.ld none 1 false (.t 44)), .u 46 (.call f3 [(.t 45)]), .m 8 (.t 46)])
 (.fg [0, 1, 8] (.seq (.ops true [.m 47 (.t 1), .m 48 (.t 8), .u 49 (.callf f4 [(.t 47), (.t 48)]), .m 50 (.t 1), .u 51 (.len (.t 50)), .u 52 (.sl 1 (.t 49) none (some (.t 51))), .m 53 (.t 0), .m 54 (.t 8), .u 55 (.callf f4 [(.t 53), (.t 54)]), .m 9 (.t 52), .m 10 (.t 55)])
 (.fg [8, 9, 10] (.fz [9] (.seq (.ops false [.m 56 (.t 10), .u 57 (.len (.t 56)), .m 58 (.t 9), .u 59 (.len (.t 58)), .u 60 (.bin .sub (.t 57) (.t 59)), .u 61 (.mk 1 [(.lit (.int .u32 0))] (.t 60) (.t 60)), .m 11 (.t 61)])
 (.fg [8, 9, 10, 11] (.seq (.ops true [.m 62 (.t 9), .m 63 (.t 9), .u 64 (.len (.t 63)), .u 65 (.bin .sub (.t 64) (.i 1)), .u 66 (.idx 1 (.t 62) (.t 65)), .u 67 (.ld none 1 false (.t 66)), .u 68 (.conv .u64 (.t 67)), .m 69 (.t 9), .m 70 (.t 9), .u 71 (.len (.t 70)), .u 72 (.bin .sub (.t 71) (.i 2)), .u 73 (.idx 1 (.t 69) (.t 72)), .u 74 (.ld none 1 false (.t 73)), .u 75 (.conv .u64 (.t 74)), .m 12 (.t 68), .m 13 (.t 75)])
 (.fg [8, 9, 10, 11, 12, 13] (.seq (.seq (.ops false [.m 76 (.t 11), .u 77 (.len (.t 76)), .u 78 (.bin .sub (.t 77) (.i 1)), .m 14 (.t 78)])
 (.fg [8, 9, 10, 11, 12, 13, 14] (.block 0 (.loop (.seq (.seq (.ops false [.m 79 (.t 14), .u 80 (.bin .geq (.t 79) (.i 0))])
 (.fg [8, 9, 10, 11, 12, 13, 14, 80] (.cond (.t 80) .skip (.exit 0))))
 (.fg [8, 9, 10, 11, 12, 13, 14] (.seq (.block 1 (.seq (.ops false [.m 83 (.t 10), .m 84 (.t 14), .m 85 (.t 14), .m 86 (.t 9), .u 87 (.len (.t 86)), .u 88 (.bin .add (.t 85) (.t 87)), .u 89 (.bin .add (.t 88) (.i 1)), .u 90 (.sl 1 (.t 83) (some (.t 84)) (some (.t 89))), .m 15 (.t 90)])
 (.fg [8, 9, 10, 11, 12, 13, 14, 15] (.seq (.ops true [.m 91 (.t 15), .m 92 (.t 9), .u 93 (.len (.t 92)), .u 94 (.idx 1 (.t 91) (.t 93)), .u 95 (.ld none 1 false (.t 94)), .u 96 (.conv .u64 (.t 95)), .u 97 (.bin .shl (.t 96) (.c (.one (.lit (.int .u64 32))))), .m 98 (.t 15), .m 99 (.t 9), .u 100 (.len (.t 99)), .u 101 (.bin .sub (.t 100) (.i 1)), .u 102 (.idx 1 (.t 98) (.t 101)), .u 103 (.ld none 1 false (.t 102)), .u 104 (.conv .u64 (.t 103)), .u 105 (.bin .or (.t 97) (.t 104)), .m 16 (.t 105)])
 (.fg [8, 9, 10, 11, 12, 13, 14, 15, 16] (.seq (.ops true [.m 106 (.t 16), .m 107 (.t 12), .u 108 (.bin .quo (.t 106) (.t 107)), .m 109 (.t 16), .m 110 (.t 12), .u 111 (.bin .rem (.t 109) (.t 110)), .m 17 (.t 108), .m 18 (.t 111)])
 (.fg [8, 9, 10, 11, 12, 13, 14, 15, 17, 18] (.seq (.block 2 (.loop (.seq (.seq (.ops false [.m 112 (.t 18), .u 113 (.bin .lss (.t 112) (.c (.one (.lit (.int .u64 4294967296))))), .m 114 (.t 113), .w 115 114 true (.mv (.t 17)), .w 116 114 true (.bin .geq (.t 115) (.c (.one (.lit (.int .u64 4294967296))))), .w 117 114 true (.mv (.t 116)), .w 118 117 false (.mv (.t 17)), .w 119 117 false (.mv (.t 13)), .w 120 117 false (.bin .mul (.t 118) (.t 119)), .w 121 117 false (.mv (.t 18)), .w 122 117 false (.bin .shl (.t 121) (.c (.one (.lit (.int .u64 32))))), .w 123 117 false (.mv (.t 15)), .w 124 117 false (.mv (.t 9)), .w 125 117 false (.len (.t 124)), .w 126 117 false (.bin .sub (.t 125) (.i 2)), .w 127 117 false (.idx 1 (.t 123) (.t 126)), .w 128 117 false (.ld none 1 false (.t 127)), .w 129 117 false (.conv .u64 (.t 128)), .w 130 117 false (.bin .or (.t 122) (.t 129)), .w 131 117 false (.bin .gtr (.t 120) (.t 130)), .w 132 114 true (.pick (.t 117) .tr (.t 131)), .u 133 (.pick (.t 114) (.t 132) .fa)])
 (.fg [8, 9, 10, 11, 12, 13, 14, 15, 17, 18, 133] (.cond (.t 133) .skip (.exit 2))))
 (.fg [8, 9, 10, 11, 12, 13, 14, 15, 17, 18] (.block 3 (.seq (.ops false [.m 134 (.t 17), .u 135 (.bin .sub (.t 134) (.c (.one (.lit (.int .u64 1))))), .m 17 (.t 135)])
 (.fg [8, 9, 10, 11, 12, 13, 14, 15, 17, 18] (.ops false [.m 136 (.t 18), .m 137 (.t 12), .u 138 (.bin .add (.t 136) (.t 137)), .m 18 (.t 138)]))))))))
 (.fg [8, 9, 10, 11, 12, 13, 14, 15, 17] (.seq (.seq (.ops false [.m 139 (.t 15), .m 140 (.t 9), .m 141 (.t 17), .u 142 (.call f5 [(.t 139), (.t 140), (.t 141)])])
 (.fg [8, 9, 10, 11, 12, 13, 14, 15, 17, 142] (.cond (.t 142) (.seq (.ops false [.m 143 (.t 17), .u 144 (.bin .sub (.t 143) (.c (.one (.lit (.int .u64 1))))), .m 17 (.t 144)])
 (.fg [8, 9, 10, 11, 12, 13, 14, 15, 17] (.ops false [.m 145 (.t 15), .m 146 (.t 9), .u 147 (.call f6 [(.t 145), (.t 146)])]))) .skip)))
 (.fg [8, 9, 10, 11, 12, 13, 14, 17] (.ops false [.m 148 (.t 11), .m 149 (.t 14), .m 150 (.t 17), .u 151 (.conv .u32 (.t 150)), .u 152 (.idx 1 (.t 148) (.t 149)), .n (.st none 1 (.t 152) (.t 151))]))))))))))))
 (.fg [8, 9, 10, 11, 12, 13, 14] (.ops false [.m 81 (.t 14), .u 82 (.bin .sub (.t 81) (.i 1)), .m 14 (.t 82)])))))))))
 (.fg [8, 10, 11] (.seq (.ops false [.m 153 (.t 11), .u 154 (.call f1 [(.t 153)]), .m 155 (.t 10), .m 156 (.t 8), .u 157 (.call f7 [(.t 155), (.t 156)]), .m 4 (.t 154), .m 5 (.t 157)])
 .ret))))))))))))))))))
set_option maxHeartbeats 4000000 in
theorem divide_sound (hΓ : Holds P Γ) {f fcmp ftrim fshort flz fup frem fback fdown : Nat} (h1 : Γ fcmp = .dat false compare_G) (h2 : Γ ftrim = .dat false trim_G) (h3 : Γ fshort = .dat false short_G) (h4 : Γ flz = .dat true lz_G)
  (h5 : Γ fup = .fresh 1 up_G) (h6 : Γ frem = .own remove_G) (h7 : Γ fback = .own back_G) (h8 : Γ fdown = .dat false down_G)
  (hc : check P f = some (158, (ac_integer_divide fcmp ftrim fshort flz fup frem fback fdown).strip, [.tmp 4, .tmp 5])) : Sound P f (.dat false divide_G) := by
 refine sound_dat hc divide_good hΓ (fun args K hcl hfi hG => ?_)
 match args, hG with
 | [a, b], hG =>
  obtain ⟨x, rfl, hx, y, rfl, hy, hzx, hzy, hy0, hxl, hyl, hK⟩ := hG
  refine ⟨by simp, ?_⟩
  have hn : 0 < y.length := by cases y with | nil => exact (hy0 rfl).elim | cons => simp
  have ht0 : y.getD (y.length - 1) 0 ≠ 0 := by
   intro e
   refine hzy ?_
   rw [List.getLast?_eq_getElem?]
   rw [List.getD_eq_getElem?_getD, List.getElem?_eq_getElem (by omega)] at e
   rw [List.getElem?_eq_getElem (by omega)]
   simpa using e
  have htB := WL_getD hy (y.length - 1)
  obtain ⟨s, hs32, hs, hs1, hs2⟩ := lz_spec (Nat.pos_of_ne_zero ht0) htB
  have hlast : ((y.length : Int) - 1).toNat = y.length - 1 := by omega
  have hle : (y.length ≤ y.length + 1) = True := eq_true (by omega)
  obtain ⟨hV1, hV2⟩ := shifted hy hn hs1 hs2
  by_cases hlt : val x < val y
  ·simp only [go_sem, ac_integer_divide, h1, h2, h3, h4, h5, h8, ordN_lt hlt]
   refine ⟨hx, hy, hzx, hzy, fun _ => ⟨hx, by omega, ?_⟩, fun h => absurd (show (-1 : Int) < 0 by omega) h⟩
   rw [Nat.div_eq_of_lt hlt, Nat.mod_eq_of_lt hlt, digs_zero] at hK
   exact hK
  have hlen : y.length ≤ x.length := by
   rcases Nat.lt_or_ge x.length y.length with h | h
   ·exact absurd (lt_of_len hx hzy h) hlt
   ·exact h
  obtain ⟨M, hM⟩ : ∃ M, M = x.length + 1 - y.length := ⟨_, rfl⟩
  have hM2 : ((x.length + 1 : Nat) : Int) - (y.length : Int) = (M : Int) := by omega
  simp only [go_sem, ac_integer_divide, h1, h2, h3, h4, h5, h8, hlast, hs, dig_length, dig_take, hle, ordN_nlt hlt, hM2]
  refine ⟨hx, hy, hzx, hzy, fun _ => ⟨fun hone => ?_, fun hone => ?_⟩⟩
  ·have hone : y.length = 1 := by omega
   match y, hone with
   | [t], _ =>
    simp only [List.length_singleton, Nat.sub_self, List.getD_cons_zero] at ht0 htB ⊢
    refine ⟨by omega, by omega, hx, by omega, by omega, by omega, WL_cons.2 ⟨Nat.lt_trans (Nat.mod_lt _ (by omega)) htB, WL_nil⟩, ?_⟩
    simpa [val] using hK
  have hone : 2 ≤ y.length := by omega
  generalize hV : val y * 2 ^ s = V at hV1 hV2
  generalize hA : val x * 2 ^ s = A
  generalize hnn : y.length = n at *
  generalize hLL : x.length + 1 = L at *
  have hV0 : 0 < V := by have := pow_pos n; omega
  have htop : (dig n V).getD (n - 1) 0 = V / 4294967296 ^ (n - 1) % 4294967296 := dig_get _ _ _ (by omega)
  have hnext : (dig n V).getD ((n : Int) - 2).toNat 0 = V / 4294967296 ^ (n - 2) % 4294967296 := by
   rw [show ((n : Int) - 2).toNat = n - 2 by omega]; exact dig_get _ _ _ (by omega)
  have hvv : val (dig n V) = V := by rw [val_dig, Nat.mod_eq_of_lt hV1]
  repeat (first | (refine And.intro (by omega) ?_) | (refine And.intro (by assumption) ?_) | (refine And.intro rfl ?_) | (refine And.intro ⟨rfl, by omega⟩ ?_) | (refine And.intro ⟨rfl, by omega, by omega⟩ ?_) | (intro _))
  obtain ⟨top, htd⟩ : ∃ t, t = V / 4294967296 ^ (n - 1) % 4294967296 := ⟨_, rfl⟩
  obtain ⟨next, hnd⟩ : ∃ t, t = V / 4294967296 ^ (n - 2) % 4294967296 := ⟨_, rfl⟩
  have htB : top < 4294967296 := by rw [htd]; exact Nat.mod_lt _ (by omega)
  have hnB : next < 4294967296 := by rw [hnd]; exact Nat.mod_lt _ (by omega)
  rw [htop, hnext, ← htd, ← hnd, Nat.mod_eq_of_lt (show top < 18446744073709551616 by omega), Nat.mod_eq_of_lt (show next < 18446744073709551616 by omega)]
  have hstart := start_lt hx hs32 (y := y) (by rw [hnn, hV]; exact hV2) (by omega)
  rw [hV, hA, hLL, hnn, ← hM] at hstart
  refine wpA_loop (fun p : Nat × Nat × List Nat => ⟨mkV [(8, .one (.lit (.int .i64 s))), (9, wsA (dig n V)), (10, .one (.own 55 1 1 0 L)), (11, .one (.own 61 1 1 0 M)), (12, .one (.lit (.int .u64 top))), (13, .one (.lit (.int .u64 next))), (14, .one (.lit (.int .i64 ((p.1 : Int) - 1))))],
    mkH [(55, ⟨1, some ⟨(dig L p.2.1).map wc, 1, true⟩⟩), (61, ⟨1, some ⟨(List.replicate p.1 0 ++ p.2.2).map wc, 1, true⟩⟩)]⟩)
   (fun p => p.1 ≤ M ∧ p.2.1 < V * 4294967296 ^ p.1 ∧ A = p.2.1 + V * 4294967296 ^ p.1 * val p.2.2 ∧ WL p.2.2 ∧ p.2.2.length = M - p.1) (fun p => p.1) (M, A, []) ?_ ?_ ?_
  ·exact weak_lit (by simp [okS, okV, okC, okL, okH, okB, okE, mkV_cons, mkV_nil, mkH_cons, mkH_nil, wsA, ws]) ⟨okB_wc rfl, okB_wc (by simp), trivial⟩
  ·exact ⟨Nat.le_refl _, hstart, by simp [val], WL_nil, by simp⟩
  ·rintro ⟨j1, X, qd⟩ ⟨hj, hX, hAX, hqd, hqdl⟩
   simp only at hj hX hAX hqd hqdl
   have hql : (List.replicate j1 0 ++ qd).length = M := by simp; omega
   rcases Nat.eq_zero_or_pos j1 with hj0 | hj0
   ·subst hj0
    simp only [Nat.pow_zero, Nat.mul_one] at hX hAX
    have h0f : ((0 : Int) ≤ ((0 : Nat) : Int) - 1) = False := eq_false (by omega)
    simp only [go_sem, h1, h2, h3, h4, h5, h8, dig_length, hql, h0f]
    refine ⟨hqd, by omega, dig_WL _ _, by omega, by omega, ?_⟩
    have hXL : X < 4294967296 ^ L := Nat.lt_trans hX (Nat.lt_of_lt_of_le hV1 (Nat.pow_le_pow_right (by omega) (by omega)))
    rw [val_dig, Nat.mod_eq_of_lt hXL]
    have hs0 : 0 < 2 ^ s := Nat.pow_pos (by omega)
    have hA2 := (Nat.div_mod_unique hV0 (a := A) (c := X) (d := val qd)).2 ⟨hAX.symm, hX⟩
    have e1 : val x / val y = val qd := by rw [← hA2.1, ← hA, ← hV, Nat.mul_div_mul_right _ _ hs0]
    have e2 : val x % val y = X / 2 ^ s := by
     rw [← hA2.2, ← hA, ← hV, Nat.mul_mod_mul_right, Nat.mul_div_cancel _ hs0]
    rw [e1, e2] at hK
    exact hK
   ·obtain ⟨j, rfl⟩ : ∃ j, j1 = j + 1 := ⟨j1 - 1, by omega⟩
    have hj1 : (((j + 1 : Nat) : Int) - 1) = (j : Int) := by omega
    simp only [hj1]
    generalize hPP : X / 4294967296 ^ j = P'
    have hPV : P' < V * 4294967296 := by
     rw [← hPP, Nat.div_lt_iff_lt_mul (pow_pos _), Nat.mul_assoc, Nat.mul_comm 4294967296, ← Nat.pow_succ]; exact hX
    have hPL : P' < 4294967296 ^ (n + 1) := by
     have := (Nat.mul_lt_mul_right (show 0 < 4294967296 by omega)).2 hV1
     rw [Nat.pow_succ]; exact Nat.lt_trans hPV this
    have st := step_of hone hV1 hV2 hPV
    rw [← htd, ← hnd] at st
    have hread : ∀ k, k ≤ n → (dig L X).getD (j + k) 0 = P' / 4294967296 ^ k % 4294967296 := by
     intro k hk
     rw [dig_get _ _ _ (by omega), Nat.pow_add, ← Nat.div_div_eq_div_mul, hPP]
    have hr0 := hread n (Nat.le_refl _)
    have hr1 := hread (n - 1) (by omega)
    have hr2 := hread (n - 2) (by omega)
    obtain ⟨a, ha⟩ : ∃ a, a = P' / 4294967296 ^ n % 4294967296 := ⟨_, rfl⟩
    obtain ⟨b, hb⟩ : ∃ b, b = P' / 4294967296 ^ (n - 1) % 4294967296 := ⟨_, rfl⟩
    obtain ⟨u2, hu⟩ : ∃ u2, u2 = P' / 4294967296 ^ (n - 2) % 4294967296 := ⟨_, rfl⟩
    rw [← ha] at hr0 st
    rw [← hb] at hr1 st
    rw [← hu] at hr2 st
    have haB : a < 4294967296 := by rw [ha]; exact Nat.mod_lt _ (by omega)
    have hbB : b < 4294967296 := by rw [hb]; exact Nat.mod_lt _ (by omega)
    have huB : u2 < 4294967296 := by rw [hu]; exact Nat.mod_lt _ (by omega)
    have htop0 : 0 < top := by have := st.half; omega
    have hsub : j + n + 1 - j = n + 1 := by omega
    have hsub1 : ((n : Int) - 1).toNat = n - 1 := by omega
    have hsub2 : ((n : Int) - 2).toNat = n - 2 := by omega
    have ea1 : a % 18446744073709551616 = a := by omega
    have ea2 : a * 4294967296 % 18446744073709551616 = a * 4294967296 := by omega
    have eb1 : b % 18446744073709551616 = b := by omega
    have eu1 : u2 % 18446744073709551616 = u2 := by omega
    have eor := or32 a b hbB
    simp only [go_sem, h1, h2, h3, h4, h5, h8, dig_length, hql, hsub, hsub1, hsub2, hr0, hr1, hr2, ea1, ea2, eb1, eor]
    repeat (first | (refine And.intro (by omega) ?_) | (refine And.intro (by assumption) ?_) | (refine And.intro rfl ?_) | (refine And.intro ⟨rfl, by omega⟩ ?_) | (refine And.intro ⟨rfl, by omega, by omega⟩ ?_) | (intro _))
    obtain ⟨q1, q2⟩ := st.first
    generalize hhead : a * 4294967296 + b = head at *
    have hqB := st.quot
    rw [Nat.mod_eq_of_lt (show head / top < 18446744073709551616 by omega)]
    refine wpA_loop (fun p : Nat × Nat => ⟨mkV [(8, .one (.lit (.int .i64 s))), (9, wsA (dig n V)), (10, .one (.own 55 1 1 0 L)), (11, .one (.own 61 1 1 0 M)), (12, .one (.lit (.int .u64 top))), (13, .one (.lit (.int .u64 next))), (14, .one (.lit (.int .i64 j))), (15, .one (.own 55 1 1 j (n + 1))), (17, .one (.lit (.int .u64 p.1))), (18, .one (.lit (.int .u64 p.2)))],
      mkH [(55, ⟨1, some ⟨(dig L X).map wc, 1, true⟩⟩), (61, ⟨1, some ⟨(List.replicate (j + 1) 0 ++ qd).map wc, 1, true⟩⟩)]⟩)
     (fun p => p.1 * top + p.2 = head ∧ P' / V ≤ p.1 ∧ p.1 ≤ 4294967297 ∧ p.2 < 8589934592 ∧ (4294967296 < p.1 → p.2 < 4294967296)) (fun p => p.1) (head / top, head % top) ?_ ?_ ?_
    ·exact weak_lit (by simp [okS, okV, okC, okL, okH, okB, okE, mkV_cons, mkV_nil, mkH_cons, mkH_nil, wsA, ws]) ⟨okB_wc rfl, okB_wc rfl, trivial⟩
    ·have m1 := Nat.mod_lt head htop0
     exact ⟨Nat.div_add_mod' head top, q2, q1, by simp only; omega, fun _ => by simp only; omega⟩
    ·rintro ⟨g, r⟩ ⟨hg, hqg, hgB, hrB, hgr⟩
     simp only at hg hqg hgB hrB hgr
     rcases Nat.lt_or_ge r 4294967296 with hr | hr
     ·have hr' : ((r : Int) < 4294967296) = True := eq_true (by omega)
      rcases Nat.lt_or_ge g 4294967296 with hgl | hgl
      ·have hg' : ((4294967296 : Int) ≤ (g : Int)) = False := eq_false (by omega)
       have hm : g * next < 18446744073709551616 := mul_lt64' hgl hnB
       have em : g * next % 18446744073709551616 = g * next := by rw [Nat.mod_eq_of_lt hm]
       have er := shl_mod hr
       have eo := or32 r u2 huB
       by_cases hcmp : r * 4294967296 + u2 < g * next
       ·simp only [go_sem, h1, h2, h3, h4, h5, h6, h7, h8, dig_length, hql, hsub, hsub1, hsub2, hr0, hr1, hr2, eu1, hr', hg', em, er, eo, hcmp]
        repeat (first | (refine And.intro (by omega) ?_) | (refine And.intro (by assumption) ?_) | (refine And.intro rfl ?_) | (refine And.intro ⟨rfl, by omega⟩ ?_) | (refine And.intro ⟨rfl, by omega, by omega⟩ ?_) | (intro _))
        have hdown : 4294967296 ≤ g ∨ r * 4294967296 + u2 < g * next := .inr hcmp
        have hdn := st.down hg hdown
        have hg0 : 1 ≤ g := Nat.lt_of_le_of_lt (Nat.zero_le _) hdn
        have hqg1 : P' / V ≤ g - 1 := Nat.le_sub_one_of_lt hdn
        have hg1 : sub64 g 1 = g - 1 := sub64_le hg0 (by omega)
        refine ⟨(g - 1, r + top), weak_lit (by simp [okS, okV, okC, okL, okH, okB, okE, mkV_cons, mkV_nil, mkH_cons, mkH_nil, wsA, ws, hg1]; omega) ⟨okB_wc rfl, okB_wc rfl, trivial⟩, ⟨?_, hqg1, by simp only; omega, by simp only; omega, fun _ => by simp only at *; omega⟩, by simp only; omega⟩
        simp only
        obtain ⟨g', rfl⟩ : ∃ g', g = g' + 1 := ⟨g - 1, by omega⟩
        rw [Nat.add_sub_cancel, ← hg, Nat.add_mul]; omega
       ·simp only [go_sem, h1, h2, h3, h4, h5, h6, h7, h8, dig_length, hql, hsub, hsub1, hsub2, hr0, hr1, hr2, eu1, hr', hg', em, er, eo, hcmp]
        repeat (first | (refine And.intro (by omega) ?_) | (refine And.intro (by assumption) ?_) | (refine And.intro rfl ?_) | (refine And.intro ⟨rfl, by omega⟩ ?_) | (refine And.intro ⟨rfl, by omega, by omega⟩ ?_) | (intro _))
        have hstop : 4294967296 ≤ r ∨ (g < 4294967296 ∧ g * next ≤ r * 4294967296 + u2) := .inr ⟨hgl, by omega⟩
        have hgB2 : g ≤ 4294967296 := by omega
        have hle := st.stop hg hgB2 hstop
        obtain ⟨l1, l2⟩ := st.left hqg hle
        have hgV : g * V < 4294967296 ^ (n + 1) := by
         have a1 := Nat.mul_le_mul_right V hgB2
         have a2 := (Nat.mul_lt_mul_left (show 0 < 4294967296 by omega)).2 hV1
         rw [Nat.pow_succ, Nat.mul_comm (4294967296 ^ n)]; exact Nat.lt_of_le_of_lt a1 a2
        have hsplit := dig_split (L := L) (j := j) (n := n) (X := X) (by omega) (by rw [hPP]; exact hPL)
        rw [hPP] at hsplit
        have hvp : val (dig (n + 1) P') = P' := by rw [val_dig, Nat.mod_eq_of_lt hPL]
        have hrl : P' % V < 4294967296 ^ (n + 1) := Nat.lt_of_le_of_lt (Nat.mod_le _ _) hPL
        have hjoin := dig_join (L := L) (j := j) (n := n) (X := X) (by omega) hrl
        have hdiv := div_step (j := j) (q := P' / V) hV0 hAX (by rw [hPP])
        rw [hPP] at hdiv
        simp only [remove_G, onWs_e]
        refine ⟨dig_WL _ _, dig j X, dig (n + 1) P', List.replicate (L - (j + (n + 1))) 0, g, (dig_length _ _).symm, (dig_length _ _).symm, rfl, by simp only [mkH_cons, ↓reduceIte, Nat.reduceEqDiff]; rw [hsplit], dig_WL _ _, hgB2, by rw [dig_length, dig_length]; omega, by rw [hvv, dig_length]; exact hgV, by rw [dig_length]; omega, ?_⟩
        rw [hvp, hvv, dig_length]
        by_cases hb : P' < g * V
        ·have hgq := l1 hb
         simp only [go_sem, h1, h2, h3, h4, h5, h7, h8, hb, hql]
         simp only [back_G, onWs_e]
         refine ⟨dig_WL _ _, dig j X, dig (n + 1) (P' + 4294967296 ^ (n + 1) - g * V), List.replicate (L - (j + (n + 1))) 0, (dig_length _ _).symm, (dig_length _ _).symm, by simp only [mkH_cons, ↓reduceIte, Nat.reduceEqDiff], dig_WL _ _, by rw [dig_length, dig_length]; omega, by rw [dig_length]; omega, ?_⟩
         rw [dig_length, hvv, left_1 hgq hb hgV, hjoin]
         have hg1 : sub64 g 1 = P' / V := by rw [hgq]; exact sub64_succ hqB
         simp only [go_sem, h1, h2, h3, h4, h5, h7, h8, hql, hg1]
         rw [Nat.mod_eq_of_lt hqB]
         have hset := rep_set_low (n := j + 1) qd (P' / V) (by omega)
         rw [Nat.add_sub_cancel] at hset
         rw [hset]
         repeat (first | (refine And.intro (by omega) ?_) | (refine And.intro (by assumption) ?_) | (refine And.intro rfl ?_) | (refine And.intro ⟨rfl, by omega⟩ ?_) | (refine And.intro ⟨rfl, by omega, by omega⟩ ?_) | (intro _))
         exact ⟨(j, X % 4294967296 ^ j + 4294967296 ^ j * (P' % V), P' / V :: qd), weak_lit (by simp [okS, okV, okC, okL, okH, okB, okE, mkV_cons, mkV_nil, mkH_cons, mkH_nil, wsA, ws]) ⟨okB_wc rfl, okB_wc rfl, trivial⟩, ⟨by simp only; omega, hdiv.2, hdiv.1, WL_cons.2 ⟨hqB, hqd⟩, by simp only [List.length_cons]; omega⟩, by simp only; omega⟩
        ·have hgq := l2 hb
         rw [left_0 hgq, hjoin]
         simp only [go_sem, h1, h2, h3, h4, h5, h7, h8, hb, hql]
         rw [hgq, Nat.mod_eq_of_lt hqB]
         have hset := rep_set_low (n := j + 1) qd (P' / V) (by omega)
         rw [Nat.add_sub_cancel] at hset
         rw [hset]
         repeat (first | (refine And.intro (by omega) ?_) | (refine And.intro (by assumption) ?_) | (refine And.intro rfl ?_) | (refine And.intro ⟨rfl, by omega⟩ ?_) | (refine And.intro ⟨rfl, by omega, by omega⟩ ?_) | (intro _))
         exact ⟨(j, X % 4294967296 ^ j + 4294967296 ^ j * (P' % V), P' / V :: qd), weak_lit (by simp [okS, okV, okC, okL, okH, okB, okE, mkV_cons, mkV_nil, mkH_cons, mkH_nil, wsA, ws]) ⟨okB_wc rfl, okB_wc rfl, trivial⟩, ⟨by simp only; omega, hdiv.2, hdiv.1, WL_cons.2 ⟨hqB, hqd⟩, by simp only [List.length_cons]; omega⟩, by simp only; omega⟩
      ·have hg' : ((4294967296 : Int) ≤ (g : Int)) = True := eq_true (by omega)
       simp only [go_sem, h1, h2, h3, h4, h5, h6, h7, h8, dig_length, hql, hsub, hsub1, hsub2, hr0, hr1, hr2, eu1, hr', hg']
       repeat (first | (refine And.intro (by omega) ?_) | (refine And.intro (by assumption) ?_) | (refine And.intro rfl ?_) | (refine And.intro ⟨rfl, by omega⟩ ?_) | (refine And.intro ⟨rfl, by omega, by omega⟩ ?_) | (intro _))
       have hdown : 4294967296 ≤ g ∨ r * 4294967296 + u2 < g * next := .inl hgl
       have hdn := st.down hg hdown
       have hg0 : 1 ≤ g := Nat.lt_of_le_of_lt (Nat.zero_le _) hdn
       have hqg1 : P' / V ≤ g - 1 := Nat.le_sub_one_of_lt hdn
       have hg1 : sub64 g 1 = g - 1 := sub64_le hg0 (by omega)
       refine ⟨(g - 1, r + top), weak_lit (by simp [okS, okV, okC, okL, okH, okB, okE, mkV_cons, mkV_nil, mkH_cons, mkH_nil, wsA, ws, hg1]; omega) ⟨okB_wc rfl, okB_wc rfl, trivial⟩, ⟨?_, hqg1, by simp only; omega, by simp only; omega, fun _ => by simp only at *; omega⟩, by simp only; omega⟩
       simp only
       obtain ⟨g', rfl⟩ : ∃ g', g = g' + 1 := ⟨g - 1, by omega⟩
       rw [Nat.add_sub_cancel, ← hg, Nat.add_mul]; omega
     ·have hr' : ((r : Int) < 4294967296) = False := eq_false (by omega)
      simp only [go_sem, h1, h2, h3, h4, h5, h6, h7, h8, dig_length, hql, hsub, hsub1, hsub2, hr0, hr1, hr2, eu1, hr']
      repeat (first | (refine And.intro (by omega) ?_) | (refine And.intro (by assumption) ?_) | (refine And.intro rfl ?_) | (refine And.intro ⟨rfl, by omega⟩ ?_) | (refine And.intro ⟨rfl, by omega, by omega⟩ ?_) | (intro _))
      have hstop : 4294967296 ≤ r ∨ (g < 4294967296 ∧ g * next ≤ r * 4294967296 + u2) := .inl hr
      have hgB2 : g ≤ 4294967296 := by omega
      have hle := st.stop hg hgB2 hstop
      obtain ⟨l1, l2⟩ := st.left hqg hle
      have hgV : g * V < 4294967296 ^ (n + 1) := by
       have a1 := Nat.mul_le_mul_right V hgB2
       have a2 := (Nat.mul_lt_mul_left (show 0 < 4294967296 by omega)).2 hV1
       rw [Nat.pow_succ, Nat.mul_comm (4294967296 ^ n)]; exact Nat.lt_of_le_of_lt a1 a2
      have hsplit := dig_split (L := L) (j := j) (n := n) (X := X) (by omega) (by rw [hPP]; exact hPL)
      rw [hPP] at hsplit
      have hvp : val (dig (n + 1) P') = P' := by rw [val_dig, Nat.mod_eq_of_lt hPL]
      have hrl : P' % V < 4294967296 ^ (n + 1) := Nat.lt_of_le_of_lt (Nat.mod_le _ _) hPL
      have hjoin := dig_join (L := L) (j := j) (n := n) (X := X) (by omega) hrl
      have hdiv := div_step (j := j) (q := P' / V) hV0 hAX (by rw [hPP])
      rw [hPP] at hdiv
      simp only [remove_G, onWs_e]
      refine ⟨dig_WL _ _, dig j X, dig (n + 1) P', List.replicate (L - (j + (n + 1))) 0, g, (dig_length _ _).symm, (dig_length _ _).symm, rfl, by simp only [mkH_cons, ↓reduceIte, Nat.reduceEqDiff]; rw [hsplit], dig_WL _ _, hgB2, by rw [dig_length, dig_length]; omega, by rw [hvv, dig_length]; exact hgV, by rw [dig_length]; omega, ?_⟩
      rw [hvp, hvv, dig_length]
      by_cases hb : P' < g * V
      ·have hgq := l1 hb
       simp only [go_sem, h1, h2, h3, h4, h5, h7, h8, hb, hql]
       simp only [back_G, onWs_e]
       refine ⟨dig_WL _ _, dig j X, dig (n + 1) (P' + 4294967296 ^ (n + 1) - g * V), List.replicate (L - (j + (n + 1))) 0, (dig_length _ _).symm, (dig_length _ _).symm, by simp only [mkH_cons, ↓reduceIte, Nat.reduceEqDiff], dig_WL _ _, by rw [dig_length, dig_length]; omega, by rw [dig_length]; omega, ?_⟩
       rw [dig_length, hvv, left_1 hgq hb hgV, hjoin]
       have hg1 : sub64 g 1 = P' / V := by rw [hgq]; exact sub64_succ hqB
       simp only [go_sem, h1, h2, h3, h4, h5, h7, h8, hql, hg1]
       rw [Nat.mod_eq_of_lt hqB]
       have hset := rep_set_low (n := j + 1) qd (P' / V) (by omega)
       rw [Nat.add_sub_cancel] at hset
       rw [hset]
       repeat (first | (refine And.intro (by omega) ?_) | (refine And.intro (by assumption) ?_) | (refine And.intro rfl ?_) | (refine And.intro ⟨rfl, by omega⟩ ?_) | (refine And.intro ⟨rfl, by omega, by omega⟩ ?_) | (intro _))
       exact ⟨(j, X % 4294967296 ^ j + 4294967296 ^ j * (P' % V), P' / V :: qd), weak_lit (by simp [okS, okV, okC, okL, okH, okB, okE, mkV_cons, mkV_nil, mkH_cons, mkH_nil, wsA, ws]) ⟨okB_wc rfl, okB_wc rfl, trivial⟩, ⟨by simp only; omega, hdiv.2, hdiv.1, WL_cons.2 ⟨hqB, hqd⟩, by simp only [List.length_cons]; omega⟩, by simp only; omega⟩
      ·have hgq := l2 hb
       rw [left_0 hgq, hjoin]
       simp only [go_sem, h1, h2, h3, h4, h5, h7, h8, hb, hql]
       rw [hgq, Nat.mod_eq_of_lt hqB]
       have hset := rep_set_low (n := j + 1) qd (P' / V) (by omega)
       rw [Nat.add_sub_cancel] at hset
       rw [hset]
       repeat (first | (refine And.intro (by omega) ?_) | (refine And.intro (by assumption) ?_) | (refine And.intro rfl ?_) | (refine And.intro ⟨rfl, by omega⟩ ?_) | (refine And.intro ⟨rfl, by omega, by omega⟩ ?_) | (intro _))
       exact ⟨(j, X % 4294967296 ^ j + 4294967296 ^ j * (P' % V), P' / V :: qd), weak_lit (by simp [okS, okV, okC, okL, okH, okB, okE, mkV_cons, mkV_nil, mkH_cons, mkH_nil, wsA, ws]) ⟨okB_wc rfl, okB_wc rfl, trivial⟩, ⟨by simp only; omega, hdiv.2, hdiv.1, WL_cons.2 ⟨hqB, hqd⟩, by simp only [List.length_cons]; omega⟩, by simp only; omega⟩
end Go.Abs
end
section
set_option linter.unusedVariables false
set_option linter.unusedSimpArgs false
set_option maxRecDepth 100000
namespace Go.Abs
open Go.Num
variable {P : Program} {Γ : Nat → Spec}
def ac_integer_Valid : AC := (.seq (.ops false [.u 1 (.box 2 (.t 0)), .m 2 .fa])
 (.fg [1] (.seq (.seq (.ops false [.u 3 (.fa 1 (.t 1)), .u 4 (.ld none 1 false (.t 3)), .u 5 (.len (.t 4)), .u 6 (.bin .eql (.t 5) (.i 0))])
 (.fg [1, 6] (.cond (.t 6) (.seq (.ops false [.u 7 (.fa 0 (.t 1)), .u 8 (.ld none 1 false (.t 7)), .u 9 (.un .not (.t 8)), .m 2 (.t 9)])
 .ret) .skip)))
 (.fg [1] (.seq (.ops false [.u 10 (.fa 1 (.t 1)), .u 11 (.ld none 1 false (.t 10)), .u 12 (.fa 1 (.t 1)), .u 13 (.ld none 1 false (.t 12)), .u 14 (.len (.t 13)), .u 15 (.bin .sub (.t 14) (.i 1)), .u 16 (.idx 1 (.t 11) (.t 15)), .u 17 (.ld none 1 false (.t 16)), .u 18 (.bin .neq (.t 17) (.c (.one (.lit (.int .u32 0))))), .m 2 (.t 18)])
 .ret)))))
def ac_integer_mag (f0 : Nat) : AC := (.seq (.ops false [.u 1 (.box 2 (.t 0)), .m 2 (.c (.one .emp))])
 (.fg [1] (.seq (.seq (.ops false [.u 3 (.ld none 2 true (.t 1)), .u 4 (.call f0 [(.t 3)]), .u 5 (.un .not (.t 4))])
 (.fg [1, 5] (.cond (.t 5) (.seq (.ops false [.m 2 (.c (.one .emp))])
 .ret) .skip)))
 (.fg [1] (.seq (.ops false [.u 6 (.fa 1 (.t 1)), .u 7 (.ld none 1 false (.t 6)), .m 2 (.t 7)])
 .ret)))))
def ac_integer_neg (f0 : Nat) : AC := (.seq (.ops false [.u 1 (.box 2 (.t 0)), .m 2 .fa])
 (.fg [1] (.seq (.ops false [.u 3 (.ld none 2 true (.t 1)), .u 4 (.call f0 [(.t 3)]), .m 5 (.t 4), .w 6 5 true (.fa 0 (.t 1)), .w 7 5 true (.ld none 1 false (.t 6)), .u 8 (.pick (.t 5) (.t 7) .fa), .m 2 (.t 8)])
 .ret)))
def ac_integer_whole (f0 : Nat) : AC := (.seq (.ops false [.u 4 (.alloc [(.lit (.bool false)), .emp])])
 (.fg [0, 1, 4] (.seq (.ops false [.m 5 (.t 1), .u 6 (.call f0 [(.t 5)]), .m 1 (.t 6)])
 (.fg [0, 1, 4] (.seq (.ops false [.m 7 (.t 0), .m 8 (.t 7), .w 9 8 true (.mv (.t 1)), .w 10 8 true (.len (.t 9)), .w 11 8 true (.bin .gtr (.t 10) (.i 0)), .u 12 (.pick (.t 8) (.t 11) .fa), .m 13 (.t 1), .u 14 (.build [.x 1 (.t 12), .x 1 (.t 13)]), .n (.st none 2 (.t 4) (.t 14))])
 .ret)))))
def ac_integer_Of (f0 : Nat) : AC := (.seq (.ops false [.u 2 (.alloc [(.lit (.bool false)), .emp])])
 (.fg [0, 2] (.seq (.ops false [.m 4 (.t 0), .u 5 (.conv .u64 (.t 4)), .m 3 (.t 5)])
 (.fg [0, 2, 3] (.seq (.seq (.ops false [.m 6 (.t 0), .u 7 (.bin .lss (.t 6) (.i 0))])
 (.fg [0, 2, 3, 7] (.cond (.t 7) (.ops false [.m 8 (.t 3), .u 9 (.un .neg (.t 8)), .m 3 (.t 9)]) .skip)))
 (.fg [0, 2, 3] (.seq (.ops false [.m 10 (.t 0), .u 11 (.bin .lss (.t 10) (.i 0)), .m 12 (.t 3), .u 13 (.conv .u32 (.t 12)), .m 14 (.t 3), .u 15 (.bin .shr (.t 14) (.c (.one (.lit (.int .u64 32))))), .u 16 (.conv .u32 (.t 15)), .u 17 (.row 1 [[.x 1 (.t 13)], [.x 1 (.t 16)]]), .u 18 (.call f0 [(.t 11), (.t 17)]), .n (.st none 2 (.t 2) (.t 18))])
 .ret)))))))
def ac_integer_Sign (f0 : Nat) : AC := (.seq (.ops false [.u 1 (.box 2 (.t 0)), .m 2 (.i 0)])
 (.fg [1] (.seq (.block 0 (.seq (.ops false [.u 4 (.ld none 2 true (.t 1)), .u 5 (.call f0 [(.t 4)]), .u 6 (.len (.t 5)), .u 7 (.bin .eql (.t 6) (.i 0)), .m 3 (.t 7)])
 (.fg [1, 3] (.cond (.t 3) (.seq (.ops false [.m 2 (.i 0)])
 .ret) (.seq (.ops false [.u 9 (.fa 0 (.t 1)), .u 10 (.ld none 1 false (.t 9)), .m 8 (.t 10)])
 (.fg [8] (.cond (.t 8) (.seq (.ops false [.m 2 (.i (-1))])
 .ret) .skip)))))))
 (.fg [] (.seq (.ops false [.m 2 (.i 1)])
 .ret)))))
def ac_integer_Cmp (f0 f1 f2 f3 : Nat) : AC := (.seq (.ops false [.u 2 (.box 2 (.t 0)), .u 3 (.box 2 (.t 1)), .m 4 (.i 0)])
 (.fg [2, 3] (.seq (.seq (.ops true [.u 8 (.ld none 2 true (.t 2)), .u 9 (.call f0 [(.t 8)]), .u 10 (.ld none 2 true (.t 3)), .u 11 (.call f0 [(.t 10)]), .m 5 (.t 9), .m 6 (.t 11)])
 (.fg [2, 3, 5, 6] (.seq (.ops false [.m 12 (.t 5), .m 13 (.t 6), .u 14 (.bin .neq (.t 12) (.t 13))])
 (.fg [2, 3, 5, 6, 14] (.cond (.t 14) (.seq (.seq (.ops false [.m 15 (.t 5), .m 16 (.t 6), .u 17 (.bin .lss (.t 15) (.t 16))])
 (.fg [17] (.cond (.t 17) (.seq (.ops false [.m 4 (.i (-1))])
 .ret) .skip)))
 (.fg [] (.seq (.ops false [.m 4 (.i 1)])
 .ret))) .skip)))))
 (.fg [2, 3] (.seq (.ops true [.u 18 (.ld none 2 true (.t 2)), .u 19 (.call f1 [(.t 18)]), .u 20 (.ld none 2 true (.t 3)), .u 21 (.call f1 [(.t 20)]), .u 22 (.call f2 [(.t 19), (.t 21)]), .m 7 (.t 22)])
 (.fg [2, 7] (.seq (.seq (.ops false [.u 23 (.ld none 2 true (.t 2)), .u 24 (.call f3 [(.t 23)])])
 (.fg [7, 24] (.cond (.t 24) (.seq (.ops false [.m 25 (.t 7), .u 26 (.un .neg (.t 25)), .m 4 (.t 26)])
 .ret) .skip)))
 (.fg [7] (.seq (.ops false [.m 27 (.t 7), .m 4 (.t 27)])
 .ret)))))))))
def ac_integer_Neg (f0 f1 f2 : Nat) : AC := (.seq (.ops false [.u 1 (.box 2 (.t 0)), .u 2 (.alloc [(.lit (.bool false)), .emp])])
 (.fg [1, 2] (.seq (.ops true [.u 3 (.ld none 2 true (.t 1)), .u 4 (.call f0 [(.t 3)]), .u 5 (.un .not (.t 4)), .u 6 (.ld none 2 true (.t 1)), .u 7 (.call f1 [(.t 6)]), .u 8 (.call f2 [(.t 5), (.t 7)]), .n (.st none 2 (.t 2) (.t 8))])
 .ret)))
def ac_integer_Add (f0 f1 f2 f3 f4 f5 : Nat) : AC := (.seq (.ops false [.u 2 (.box 2 (.t 0)), .u 3 (.box 2 (.t 1)), .u 4 (.alloc [(.lit (.bool false)), .emp])])
 (.fg [2, 3, 4] (.seq (.ops true [.u 7 (.ld none 2 true (.t 2)), .u 8 (.call f0 [(.t 7)]), .u 9 (.ld none 2 true (.t 3)), .u 10 (.call f0 [(.t 9)]), .m 5 (.t 8), .m 6 (.t 10)])
 (.fg [2, 3, 4, 5, 6] (.seq (.block 0 (.seq (.ops true [.u 12 (.ld none 2 true (.t 2)), .u 13 (.call f1 [(.t 12)]), .u 14 (.ld none 2 true (.t 3)), .u 15 (.call f1 [(.t 14)]), .u 16 (.binb .eql (.t 13) (.t 15)), .m 11 (.t 16)])
 (.fg [2, 3, 4, 5, 6, 11] (.cond (.t 11) (.seq (.ops false [.u 17 (.ld none 2 true (.t 2)), .u 18 (.call f1 [(.t 17)]), .m 19 (.t 5), .m 20 (.t 6), .u 21 (.call f2 [(.t 19), (.t 20)]), .u 22 (.call f3 [(.t 18), (.t 21)]), .n (.st none 2 (.t 4) (.t 22))])
 .ret) (.seq (.ops false [.m 24 (.t 5), .m 25 (.t 6), .u 26 (.call f4 [(.t 24), (.t 25)]), .u 27 (.bin .geq (.t 26) (.i 0)), .m 23 (.t 27)])
 (.fg [2, 3, 4, 5, 6, 23] (.cond (.t 23) (.seq (.ops false [.u 28 (.ld none 2 true (.t 2)), .u 29 (.call f1 [(.t 28)]), .m 30 (.t 5), .m 31 (.t 6), .u 32 (.call f5 [(.t 30), (.t 31)]), .u 33 (.call f3 [(.t 29), (.t 32)]), .n (.st none 2 (.t 4) (.t 33))])
 .ret) .skip)))))))
 (.fg [3, 4, 5, 6] (.seq (.ops false [.u 34 (.ld none 2 true (.t 3)), .u 35 (.call f1 [(.t 34)]), .m 36 (.t 6), .m 37 (.t 5), .u 38 (.call f5 [(.t 36), (.t 37)]), .u 39 (.call f3 [(.t 35), (.t 38)]), .n (.st none 2 (.t 4) (.t 39))])
 .ret)))))))
def ac_integer_Mul (f0 f1 f2 f3 : Nat) : AC := (.seq (.ops false [.u 2 (.box 2 (.t 0)), .u 3 (.box 2 (.t 1)), .u 4 (.alloc [(.lit (.bool false)), .emp])])
 (.fg [2, 3, 4] (.seq (.ops true [.u 5 (.ld none 2 true (.t 2)), .u 6 (.call f0 [(.t 5)]), .u 7 (.ld none 2 true (.t 3)), .u 8 (.call f0 [(.t 7)]), .u 9 (.binb .neq (.t 6) (.t 8)), .u 10 (.ld none 2 true (.t 2)), .u 11 (.call f1 [(.t 10)]), .u 12 (.ld none 2 true (.t 3)), .u 13 (.call f1 [(.t 12)]), .u 14 (.call f2 [(.t 11), (.t 13)]), .u 15 (.call f3 [(.t 9), (.t 14)]), .n (.st none 2 (.t 4) (.t 15))])
 .ret)))
def ac_integer_Gcd (f0 f1 f2 : Nat) : AC := (.seq (.ops false [.u 2 (.box 2 (.t 0)), .u 3 (.box 2 (.t 1)), .u 4 (.alloc [(.lit (.bool false)), .emp])])
 (.fg [2, 3, 4] (.seq (.ops true [.u 9 (.ld none 2 true (.t 2)), .u 10 (.call f0 [(.t 9)]), .u 11 (.ld none 2 true (.t 3)), .u 12 (.call f0 [(.t 11)]), .m 5 (.t 10), .m 6 (.t 12)])
 (.fg [4, 5, 6] (.seq (.block 0 (.loop (.seq (.seq (.ops false [.m 13 (.t 6), .u 14 (.len (.t 13)), .u 15 (.bin .gtr (.t 14) (.i 0))])
 (.fg [4, 5, 6, 15] (.cond (.t 15) .skip (.exit 0))))
 (.fg [4, 5, 6] (.block 1 (.seq (.ops false [.m 17 (.t 5), .m 18 (.t 6), .u 19 (.call f1 [(.t 17), (.t 18)]), .m 16 (.t 19), .u 20 (.ext 0 (.t 16)), .u 21 (.ext 1 (.t 16)), .m 7 (.t 20), .m 8 (.t 21)])
 (.fg [4, 6, 8] (.ops false [.m 22 (.t 6), .m 23 (.t 8), .m 5 (.t 22), .m 6 (.t 23)]))))))))
 (.fg [4, 5] (.seq (.ops false [.m 24 (.t 5), .u 25 (.call f2 [.fa, (.t 24)]), .n (.st none 2 (.t 4) (.t 25))])
 .ret)))))))
def ac_integer_Div (f0 f1 f2 f3 f4 f5 tE : Nat) : AC := (.seq (.ops false [.u 2 (.box 2 (.t 0)), .u 3 (.box 2 (.t 1)), .u 4 (.alloc [(.lit (.bool false)), .emp]), .u 5 (.alloc [(.lit (.bool false)), .emp]), .m 6 (.c (.one (.lit .nilIface)))])
 (.fg [2, 3, 4, 5] (.seq (.ops false [.u 10 (.ld none 2 true (.t 3)), .u 11 (.call f0 [(.t 10)]), .m 7 (.t 11)])
 (.fg [2, 3, 4, 5, 7] (.seq (.seq (.ops false [.m 12 (.t 7), .u 13 (.len (.t 12)), .u 14 (.bin .eql (.t 13) (.i 0))])
 (.fg [2, 3, 4, 5, 7, 14] (.cond (.t 14) (.seq (.ops false [.u 15 (.build [.z [(.lit (.bool false)), .emp]]), .u 16 (.build [.z [(.lit (.bool false)), .emp]]), .u 17 (.iface tE (.i 8)), .n (.st none 2 (.t 4) (.t 15)), .n (.st none 2 (.t 5) (.t 16)), .m 6 (.t 17)])
 .ret) .skip)))
 (.fg [2, 3, 4, 5, 7] (.seq (.ops false [.u 19 (.ld none 2 true (.t 2)), .u 20 (.call f0 [(.t 19)]), .m 21 (.t 7), .u 22 (.call f1 [(.t 20), (.t 21)]), .m 18 (.t 22), .u 23 (.ext 0 (.t 18)), .u 24 (.ext 1 (.t 18)), .m 8 (.t 23), .m 9 (.t 24)])
 (.fg [2, 3, 4, 5, 7, 8, 9] (.seq (.seq (.ops false [.u 25 (.ld none 2 true (.t 2)), .u 26 (.call f2 [(.t 25)]), .m 27 (.t 26), .w 28 27 true (.mv (.t 9)), .w 29 27 true (.len (.t 28)), .w 30 27 true (.bin .gtr (.t 29) (.i 0)), .u 31 (.pick (.t 27) (.t 30) .fa)])
 (.fg [2, 3, 4, 5, 7, 8, 9, 31] (.cond (.t 31) (.ops false [.m 32 (.t 8), .u 33 (.row 1 [[.x 1 (.c (.one (.lit (.int .u32 1))))]]), .u 34 (.call f3 [(.t 32), (.t 33)]), .m 35 (.t 7), .m 36 (.t 9), .u 37 (.call f4 [(.t 35), (.t 36)]), .m 8 (.t 34), .m 9 (.t 37)]) .skip)))
 (.fg [2, 3, 4, 5, 8, 9] (.seq (.ops true [.u 38 (.ld none 2 true (.t 2)), .u 39 (.call f2 [(.t 38)]), .u 40 (.ld none 2 true (.t 3)), .u 41 (.call f2 [(.t 40)]), .u 42 (.binb .neq (.t 39) (.t 41)), .m 43 (.t 8), .u 44 (.call f5 [(.t 42), (.t 43)]), .m 45 (.t 9), .u 46 (.call f5 [.fa, (.t 45)]), .n (.st none 2 (.t 4) (.t 44)), .n (.st none 2 (.t 5) (.t 46)), .m 6 (.c (.one (.lit .nilIface)))])
 .ret)))))))))))
theorem zvalid_sound (hΓ : Holds P Γ) {f : Nat} (hc : check P f = some (19, ac_integer_Valid.strip, [.tmp 2])) : Sound P f (.dat true zvalid_G) := by
 refine sound_dat hc zvalid_good hΓ (fun args K hcl hfi hG => ?_)
 match args, hG with
 | [a], hG =>
  obtain ⟨w, rfl, hw, hK⟩ := hG
  refine ⟨by simp, ?_⟩
  simp only [go_sem, ac_integer_Valid, zb_eq, zm_eq]
  unfold vldW at hK
  intro hlen
  refine ⟨fun h => ?_, fun h _ => ?_⟩
  ·rw [if_pos (List.length_eq_zero_iff.1 h)] at hK; exact hK
  ·have hn : w.2 ≠ [] := fun e => h (by rw [e]; rfl)
   rw [if_neg hn] at hK
   refine ⟨⟨by omega, by omega⟩, by omega, by omega, ?_⟩
   have e1 : ((w.2.length : Int) - 1).toNat = w.2.length - 1 := by omega
   rw [e1]
   have e2 : (!decide (w.2.getD (w.2.length - 1) 0 = 0)) = decide (NZ w.2) := by
    rw [← decide_not, decide_eq_decide]
    unfold NZ
    rw [List.getLast?_eq_getElem?, List.getElem?_eq_getElem (by omega), List.getD_eq_getElem?_getD, List.getElem?_eq_getElem (by omega)]
    simp
   rw [e2]; exact hK
theorem zmag_sound (hΓ : Holds P Γ) {f fv : Nat} (hv : Γ fv = .dat true zvalid_G) (hc : check P f = some (8, (ac_integer_mag fv).strip, [.tmp 2])) : Sound P f (.dat false zmag_G) := by
 refine sound_dat hc zmag_good hΓ (fun args K hcl hfi hG => ?_)
 match args, hG with
 | [a], hG =>
  obtain ⟨w, rfl, hw, hK⟩ := hG
  refine ⟨by simp, ?_⟩
  simp only [go_sem, ac_integer_mag, hv, hw]
  rw [← mag_eq hw] at hK
  refine ⟨fun h => ?_, fun h => ?_⟩
  ·rw [if_pos h] at hK; exact hK
  ·rw [if_neg (by rw [h]; simp)] at hK; exact hK
theorem znegp_sound (hΓ : Holds P Γ) {f fv : Nat} (hv : Γ fv = .dat true zvalid_G) (hc : check P f = some (9, (ac_integer_neg fv).strip, [.tmp 2])) : Sound P f (.dat true znegp_G) := by
 refine sound_dat hc znegp_good hΓ (fun args K hcl hfi hG => ?_)
 match args, hG with
 | [a], hG =>
  obtain ⟨w, rfl, hw, hK⟩ := hG
  refine ⟨by simp, ?_⟩
  simp only [go_sem, ac_integer_neg, hv, hw]
  rw [← neg_eq hw] at hK
  refine ⟨fun h => ?_, fun h => ?_⟩
  ·rw [h, Bool.true_and] at hK; exact hK
  ·rw [h, Bool.false_and] at hK; exact hK
theorem whole_sound (hΓ : Holds P Γ) {f ft : Nat} (ht : Γ ft = .dat false trim_G) (hc : check P f = some (15, (ac_integer_whole ft).strip, [.cell 4 2 true])) : Sound P f (.dat false whole_G) := by
 refine sound_dat hc whole_good hΓ (fun args K hcl hfi hG => ?_)
 match args, hG with
 | [a, m], hG =>
  obtain ⟨b, rfl, hG⟩ := asBool_inv hG
  obtain ⟨l, rfl, hl, hlen, hK⟩ := hG
  refine ⟨by simp, ?_⟩
  simp only [go_sem, ac_integer_whole, ht]
  rw [← can_sg] at hK
  refine ⟨hl, hlen, fun h _ => ?_, fun h => ?_⟩
  ·rw [h, Bool.true_and] at hK; exact hK
  ·rw [h, Bool.false_and] at hK; exact hK
theorem zof_sound (hΓ : Holds P Γ) {f fw : Nat} (hw : Γ fw = .dat false whole_G) (hc : check P f = some (19, (ac_integer_Of fw).strip, [.cell 2 2 true])) : Sound P f (.dat false zof_G) := by
 refine sound_dat hc zof_good hΓ (fun args K hcl hfi hG => ?_)
 match args, hG with
 | [a], hG =>
  obtain ⟨k, n, rfl, rfl, hn1, hn2, hK⟩ := asInt_inv hG
  refine ⟨by simp, ?_⟩
  simp only [go_sem, ac_integer_Of, hw]
  have e0 : (18446744073709551616 : Int) = ((18446744073709551616 : Nat) : Int) := rfl
  have key : ∀ (x : Nat) (b : Bool), x < 18446744073709551616 → sg b x = n →
    onWs (fun l => l.length ≤ 68719476736 ∧ K (AV.agg [zb (zcan (sg b (val l))), zm (zcan (sg b (val l)))]))
     (AV.one (C.slice [[C.lit (Value.int IntKind.u32 ((x : Int) % 4294967296))], [C.lit (Value.int IntKind.u32 ((x : Int) / 2 ^ 32 % 4294967296))]])) := by
   intro x b hx hs
   have e1 : ((x : Int) % 4294967296) = ((x % 4294967296 : Nat) : Int) := by omega
   have e2 : ((x : Int) / 2 ^ 32 % 4294967296) = ((x / 4294967296 : Nat) : Int) := by omega
   rw [e1, e2, onWs_2]
   refine ⟨?_, by simp, ?_⟩
   ·rw [WL_cons, WL_cons]; exact ⟨by omega, by omega, WL_nil⟩
   ·have : val [x % 4294967296, x / 4294967296] = x := by
     simp only [val_cons, val_nil]; omega
    rw [this, hs]; exact hK
  refine ⟨fun h => ⟨⟨by omega, by omega, by decide⟩, ?_⟩, fun h => ⟨⟨by omega, by omega, by decide⟩, ?_⟩⟩
  ·have e : (-(n % 18446744073709551616) % 18446744073709551616 : Int) = ((-n).toNat : Int) := by omega
   rw [e]
   refine key _ _ (by omega) ?_
   rw [decide_eq_true h]; unfold sg; rw [if_pos rfl]; omega
  ·have e : (n % 18446744073709551616 : Int) = (n.toNat : Int) := by omega
   rw [e]
   refine key _ _ (by omega) ?_
   rw [decide_eq_false h]; unfold sg; rw [if_neg (by simp)]; omega
theorem zsign_sound (hΓ : Holds P Γ) {f fm : Nat} (hm : Γ fm = .dat false zmag_G) (hc : check P f = some (11, (ac_integer_Sign fm).strip, [.tmp 2])) : Sound P f (.dat true zsign_G) := by
 refine sound_dat hc zsign_good hΓ (fun args K hcl hfi hG => ?_)
 match args, hG with
 | [a], hG =>
  obtain ⟨w, rfl, hw, hK⟩ := hG
  refine ⟨by simp, ?_⟩
  simp only [go_sem, ac_integer_Sign, hm, hw, zb_eq, zm_eq]
  intro _
  show ((digs (zv w).natAbs).length = 0 → _) ∧ (¬(digs (zv w).natAbs).length = 0 → _)
  have h0 : (digs (zv w).natAbs).length = 0 ↔ zv w = 0 := zs_eq_zero
  rw [h0]
  refine ⟨fun h => ?_, fun h => ⟨fun hb => ?_, fun hb => ?_⟩⟩
  ·rw [h] at hK; exact hK
  ·have : zv w < 0 := by
    have := neg_eq hw; rw [hb, Bool.and_true] at this
    have hv : vldW w = true := by
     cases hv : vldW w with
     | true => rfl
     | false => exact absurd (zv_nvld hv) h
    rw [hv] at this; simpa using this.symm
   rw [Int.sign_eq_neg_one_of_neg this] at hK; exact hK
  ·have : ¬ zv w < 0 := by
    have := neg_eq hw; rw [hb, Bool.and_false] at this
    simpa using this.symm
   rw [Int.sign_eq_one_of_pos (by omega)] at hK; exact hK
theorem zcmp_sound (hΓ : Holds P Γ) {f fs fm fc fn : Nat} (hs : Γ fs = .dat true zsign_G) (hm : Γ fm = .dat false zmag_G) (hc' : Γ fc = .dat false compare_G) (hn : Γ fn = .dat true znegp_G)
  (hc : check P f = some (28, (ac_integer_Cmp fs fm fc fn).strip, [.tmp 4])) : Sound P f (.dat true zcmp_G) := by
 refine sound_dat hc zcmp_good hΓ (fun args K hcl hfi hG => ?_)
 match args, hG with
 | [a, b], hG =>
  obtain ⟨v, rfl, hv, w, rfl, hw, hK⟩ := hG
  refine ⟨by simp, ?_⟩
  simp only [go_sem, ac_integer_Cmp, hs, hm, hc', hn, hv, hw]
  simp only [val_digs]
  have hs : ∀ n : Int, Int.sign n = if n < 0 then -1 else if n = 0 then 0 else 1 := by
   intro n
   split
   ·exact Int.sign_eq_neg_one_of_neg ‹_›
   ·split
    ·rename_i h; rw [h]; rfl
    ·exact Int.sign_eq_one_of_pos (by omega)
  rw [hs, hs]
  generalize zv v = x at hK ⊢
  generalize zv w = y at hK ⊢
  refine ⟨fun h => ⟨digs_WL _, digs_WL _, digs_NZ _, digs_NZ _, fun hx => ⟨?_, ?_⟩, fun hx => ?_⟩, fun h => ⟨fun h' => ?_, fun h' => ?_⟩⟩
  ·unfold ordN; split <;> (try split) <;> omega
  ·have e : -ordN x.natAbs y.natAbs = ordI x y := by
    unfold ordN ordI
    rw [if_pos hx] at h
    have hy : y < 0 := by
     split at h
     ·assumption
     ·split at h <;> omega
    split <;> (try split) <;> (try split) <;> (try split) <;> omega
   rw [e]; exact hK
  ·have e : ordN x.natAbs y.natAbs = ordI x y := by
    unfold ordN ordI
    rw [if_neg hx] at h
    have hy : ¬ y < 0 := by
     intro hy
     rw [if_pos hy] at h
     split at h <;> omega
    split <;> (try split) <;> (try split) <;> (try split) <;> omega
   rw [e]; exact hK
  ·have e : ordI x y = -1 := ordI_lt (by
    split at h' <;> split at h' <;> (try split at h') <;> (try split at h') <;> omega)
   rw [e] at hK; exact hK
  ·have e : ordI x y = 1 := ordI_gt (by
    split at h' <;> split at h' <;> (try split at h') <;> (try split at h') <;> (try split at h) <;> (try split at h) <;> (try split at h) <;> (try split at h) <;> omega)
   rw [e] at hK; exact hK
theorem zneg_sound (hΓ : Holds P Γ) {f fn fm fw : Nat} (hn : Γ fn = .dat true znegp_G) (hm : Γ fm = .dat false zmag_G) (hw' : Γ fw = .dat false whole_G) (hc : check P f = some (9, (ac_integer_Neg fn fm fw).strip, [.cell 2 2 true])) : Sound P f (.dat false zneg_G) := by
 refine sound_dat hc zneg_good hΓ (fun args K hcl hfi hG => ?_)
 match args, hG with
 | [a], hG =>
  obtain ⟨w, rfl, hw, hz, hK⟩ := hG
  refine ⟨by simp, ?_⟩
  simp only [go_sem, ac_integer_Neg, hn, hm, hw', hw]
  rw [val_digs]
  refine ⟨digs_WL _, hz, ?_⟩
  have e : sg (!decide (zv w < 0)) (zv w).natAbs = -zv w := by
   unfold sg
   by_cases h : zv w < 0 <;> simp [h] <;> omega
  rw [e]; exact hK
theorem zmul_sound (hΓ : Holds P Γ) {f fn fm ft fw : Nat} (hn : Γ fn = .dat true znegp_G) (hm : Γ fm = .dat false zmag_G) (ht : Γ ft = .dat false times_G) (hw' : Γ fw = .dat false whole_G) (hc : check P f = some (16, (ac_integer_Mul fn fm ft fw).strip, [.cell 4 2 true])) : Sound P f (.dat false zmul_G) := by
 refine sound_dat hc zmul_good hΓ (fun args K hcl hfi hG => ?_)
 match args, hG with
 | [a, b], hG =>
  obtain ⟨v, rfl, hv, w, rfl, hw, hz, hz', hK⟩ := hG
  refine ⟨by simp, ?_⟩
  simp only [go_sem, ac_integer_Mul, hn, hm, ht, hw', hw, hv]
  simp only [val_digs]
  have e : sg (!(decide (zv v < 0) == decide (zv w < 0))) ((zv v).natAbs * (zv w).natAbs) = zv v * zv w := sg_mul _ _
  rw [e]
  refine ⟨digs_WL _, digs_WL _, hz, hz', digs_WL _, ?_, hK⟩
  have := zs_mul (zv v) (zv w)
  unfold zs at *
  rw [← Int.natAbs_mul]; omega
theorem zadd_sound (hΓ : Holds P Γ) {f fn fm fp fw fc fl : Nat} (hn : Γ fn = .dat true znegp_G) (hm : Γ fm = .dat false zmag_G) (hp : Γ fp = .dat false plus_G) (hw' : Γ fw = .dat false whole_G) (hc' : Γ fc = .dat false compare_G) (hl : Γ fl = .dat false less_G) (hc : check P f = some (40, (ac_integer_Add fm fn fp fw fc fl).strip, [.cell 4 2 true])) : Sound P f (.dat false zadd_G) := by
 refine sound_dat hc zadd_good hΓ (fun args K hcl hfi hG => ?_)
 match args, hG with
 | [a, b], hG =>
  obtain ⟨v, rfl, hv, w, rfl, hw, hz, hz', hK⟩ := hG
  refine ⟨by simp, ?_⟩
  simp only [go_sem, ac_integer_Add, hn, hm, hp, hw', hc', hl, hw, hv]
  simp only [val_digs]
  have hsz := zs_add (zv v) (zv w)
  refine ⟨fun h => ⟨digs_WL _, digs_WL _, hz, hz', digs_WL _, ?_, ?_⟩, fun h => ⟨digs_WL _, digs_WL _, digs_NZ _, digs_NZ _, fun ho => ⟨digs_WL _, digs_WL _, by unfold zs at hz; omega, ?_, digs_WL _, ?_, ?_⟩, fun ho => ⟨digs_WL _, digs_WL _, by unfold zs at hz'; omega, ?_, digs_WL _, ?_, ?_⟩⟩⟩
  ·have e := sg_add_same (of_decide_beq h)
   rw [show (zv v).natAbs + (zv w).natAbs = (zv v + zv w).natAbs by have := of_decide_beq h; omega]
   unfold zs at *; omega
  ·rw [sg_add_same (of_decide_beq h)]; exact hK
  ·exact (ordN_ge.1 ho)
  ·have := digs_len_mono (Nat.sub_le (zv v).natAbs (zv w).natAbs); unfold zs at *; omega
  ·have h1 := ordN_ge.1 ho
   rw [sg_sub (of_decide_bne h) h1]; exact hK
  ·have := mt ordN_ge.2 ho; omega
  ·have := digs_len_mono (Nat.sub_le (zv w).natAbs (zv v).natAbs); unfold zs at *; omega
  ·have h1 := mt ordN_ge.2 ho
   rw [sg_sub (fun e => of_decide_bne h e.symm) (by omega), Int.add_comm]; exact hK
theorem zdiv_sound (hΓ : Holds P Γ) {f fn fm fp fw fd fl tE : Nat} (hn : Γ fn = .dat true znegp_G) (hm : Γ fm = .dat false zmag_G) (hp : Γ fp = .dat false plus_G) (hw' : Γ fw = .dat false whole_G) (hd : Γ fd = .dat false divide_G) (hl : Γ fl = .dat false less_G) (hc : check P f = some (47, (ac_integer_Div fm fd fn fp fl fw tE).strip, [.cell 4 2 true, .cell 5 2 true, .tmp 6])) : Sound P f (.dat false zdiv_G) := by
 refine sound_dat hc zdiv_good hΓ (fun args K hcl hfi hG => ?_)
 match args, hG with
 | [a, b], hG =>
  obtain ⟨v, rfl, hv, w, rfl, hw, hz, hz', h0, hK⟩ := hG
  refine ⟨by simp, ?_⟩
  simp only [go_sem, ac_integer_Div, hn, hm, hp, hw', hd, hl, hw, hv]
  simp only [val_digs]
  have hne : ¬ (digs (zv w).natAbs).length = 0 := fun e => h0 (zs_eq_zero.1 e)
  intro _
  refine ⟨fun e => absurd e hne, fun _ => ⟨digs_WL _, digs_WL _, digs_NZ _, digs_NZ _, fun e => hne (by rw [e]; rfl), hz, hz', ?_⟩⟩
  have hq : (digs ((zv v).natAbs / (zv w).natAbs)).length ≤ 17179869184 := Nat.le_trans (digs_len_mono (Nat.div_le_self _ _)) hz
  have hr : (digs ((zv v).natAbs % (zv w).natAbs)).length ≤ 17179869184 := Nat.le_trans (digs_len_mono (Nat.mod_le _ _)) hz
  have hz'' : (digs (zv w).natAbs).length ≤ 17179869184 := hz'
  have hlt := Nat.mod_lt (zv v).natAbs (show 0 < (zv w).natAbs by omega)
  have hfin : (0 ≤ zv v ∨ (zv v).natAbs % (zv w).natAbs = 0) → K (AV.tup
    [AV.agg [zb (zcan (sg (!(decide (zv v < 0) == decide (zv w < 0))) ((zv v).natAbs / (zv w).natAbs))), zm (zcan (sg (!(decide (zv v < 0) == decide (zv w < 0))) ((zv v).natAbs / (zv w).natAbs)))],
     AV.agg [zb (zcan (sg false ((zv v).natAbs % (zv w).natAbs))), zm (zcan (sg false ((zv v).natAbs % (zv w).natAbs)))], AV.one (C.lit Value.nilIface)]) := by
   intro h
   obtain ⟨e1, e2⟩ := ediv_pos h0 h
   have e1' : sg (!(decide (zv v < 0) == decide (zv w < 0))) ((zv v).natAbs / (zv w).natAbs) = zv v / zv w := e1
   have e2' : sg false ((zv v).natAbs % (zv w).natAbs) = zv v % zv w := e2
   rw [e1', e2']; exact hK
  refine ⟨fun hneg _ => ⟨fun hp => ⟨digs_WL _, (onWs_1 _ 1).mpr ⟨WL_cons.2 ⟨by decide, WL_nil⟩, hq, by decide, digs_WL _, digs_WL _, by omega, by omega, digs_WL _, ?_, digs_WL _, ?_, ?_⟩⟩, fun hp => ⟨digs_WL _, by omega, digs_WL _, by omega, hfin (.inr ?_)⟩⟩, fun hneg => ⟨digs_WL _, by omega, digs_WL _, by omega, hfin (.inl (by omega))⟩⟩
  ·have hv1 : val [1] = 1 := rfl
   rw [hv1]
   have h1 : zs 1 ≤ 2 := zs_of (by decide)
   have := zs_add (((zv v).natAbs / (zv w).natAbs : Nat) : Int) 1
   have e : (((zv v).natAbs / (zv w).natAbs : Nat) : Int) + 1 = (((zv v).natAbs / (zv w).natAbs + 1 : Nat) : Int) := by omega
   rw [e] at this
   have h3 : zs (((zv v).natAbs / (zv w).natAbs : Nat) : Int) = (digs ((zv v).natAbs / (zv w).natAbs)).length := rfl
   have h4 : zs (((zv v).natAbs / (zv w).natAbs + 1 : Nat) : Int) = (digs ((zv v).natAbs / (zv w).natAbs + 1)).length := rfl
   rw [h3, h4] at this
   omega
  ·have := digs_len_mono (Nat.sub_le (zv w).natAbs ((zv v).natAbs % (zv w).natAbs)); omega
  ·have hv1 : val [1] = 1 := rfl
   rw [hv1]
   have hne' : (zv v).natAbs % (zv w).natAbs ≠ 0 := by
    intro e; rw [e, digs_zero] at hp; simp at hp
   obtain ⟨e1, e2⟩ := ediv_neg h0 hneg hne'
   have e1' : sg (!(decide (zv v < 0) == decide (zv w < 0))) ((zv v).natAbs / (zv w).natAbs + 1) = zv v / zv w := e1
   have e2' : sg false ((zv w).natAbs - (zv v).natAbs % (zv w).natAbs) = zv v % zv w := e2
   rw [e1', e2']; exact hK
  ·have : digs ((zv v).natAbs % (zv w).natAbs) = [] := List.eq_nil_of_length_eq_zero (by omega)
   exact digs_eq_nil.1 this
theorem zgcd_sound (hΓ : Holds P Γ) {f fm fd fw : Nat} (hm : Γ fm = .dat false zmag_G) (hw' : Γ fw = .dat false whole_G) (hd : Γ fd = .dat false divide_G) (hc : check P f = some (26, (ac_integer_Gcd fm fd fw).strip, [.cell 4 2 true])) : Sound P f (.dat false zgcd_G) := by
 refine sound_dat hc zgcd_good hΓ (fun args K hcl hfi hG => ?_)
 match args, hG with
 | [a, b], hG =>
  obtain ⟨v, rfl, hv, w, rfl, hw, hz, hz', hK⟩ := hG
  refine ⟨by simp, ?_⟩
  simp only [go_sem, ac_integer_Gcd, hm, hw', hd, hw, hv]
  refine wpA_loop (fun p : Nat × Nat => ⟨mkV [(4, .one (.ptr 4 1 0 0)), (5, .one (ws (digs p.1))), (6, .one (ws (digs p.2)))], mkH [(4, ⟨1, some ⟨[[.lit (.bool false), .emp]], 2, true⟩⟩)]⟩)
   (fun p => (digs p.1).length ≤ 17179869184 ∧ (digs p.2).length ≤ 17179869184 ∧ Nat.gcd p.1 p.2 = Int.gcd (zv v) (zv w)) (fun p => p.2) ((zv v).natAbs, (zv w).natAbs) ?_ ?_ ?_
  ·exact weak_lit (by simp [okS, okV, okC, okL, okH, okB, okE, mkV_cons, mkV_nil, mkH_cons, mkH_nil, wsA, ws]) ⟨⟨⟨rfl, rfl⟩, .inr ⟨⟨rfl, trivial, trivial⟩, trivial⟩⟩, trivial⟩
  ·exact ⟨hz, hz', rfl⟩
  ·rintro ⟨a, b⟩ ⟨ha, hb, hg⟩
   simp only at ha hb hg
   simp only [go_sem, hm, hw', hd, ws]
   simp only [val_digs]
   refine fun _ => ⟨fun h => ⟨digs_WL _, digs_WL _, digs_NZ _, digs_NZ _, fun e => by rw [e] at h; simp at h, ha, hb, ?_⟩, fun h => ⟨digs_WL _, by omega, ?_⟩⟩
   ·have hb0 : 0 < b := by
     rcases Nat.eq_zero_or_pos b with e | e
     ·rw [e, digs_zero] at h; simp at h
     ·exact e
    refine ⟨(b, a % b), weak_lit (by simp [okS, okV, okC, okL, okH, okB, okE, mkV_cons, mkV_nil, mkH_cons, mkH_nil, wsA, ws]) ⟨⟨⟨rfl, rfl⟩, .inr ⟨⟨rfl, trivial, trivial⟩, trivial⟩⟩, trivial⟩, ⟨hb, Nat.le_trans (digs_len_mono (Nat.mod_le _ _)) ha, ?_⟩, Nat.mod_lt _ hb0⟩
    rw [← hg]
    show Nat.gcd b (a % b) = _
    rw [Nat.gcd_comm b, ← Nat.gcd_rec, Nat.gcd_comm]
   ·have : digs b = [] := List.eq_nil_of_length_eq_zero (by omega)
    rw [digs_eq_nil.1 this, Nat.gcd_zero_right] at hg
    rw [hg]; exact hK
end Go.Abs
end
section
set_option linter.unusedVariables false
set_option linter.unusedSimpArgs false
set_option maxRecDepth 100000
namespace Go.Abs
open Go.Num
variable {P : Program} {Γ : Nat → Spec}
def ac_fraction_Valid (f0 f1 f2 f3 : Nat) : AC := (.seq (.ops false [.u 1 (.box 3 (.t 0)), .m 2 .fa])
 (.fg [1] (.seq (.seq (.ops false [.u 5 (.fa 1 (.t 1)), .u 6 (.ld none 1 false (.t 5)), .u 7 (.len (.t 6)), .u 8 (.bin .eql (.t 7) (.i 0)), .m 9 (.t 8), .w 10 9 true (.fa 2 (.t 1)), .w 11 9 true (.ld none 1 false (.t 10)), .w 12 9 true (.len (.t 11)), .w 13 9 true (.bin .eql (.t 12) (.i 0)), .u 14 (.pick (.t 9) (.t 13) .fa)])
 (.fg [1, 14] (.cond (.t 14) (.seq (.ops false [.u 15 (.fa 0 (.t 1)), .u 16 (.ld none 1 false (.t 15)), .u 17 (.un .not (.t 16)), .m 2 (.t 17)])
 .ret) .skip)))
 (.fg [1] (.seq (.ops true [.u 18 (.fa 1 (.t 1)), .u 19 (.ld (some 1) 1 false (.t 18)), .u 20 (.build [.z [(.lit (.bool false))], .x 1 (.t 19)]), .u 21 (.fa 2 (.t 1)), .u 22 (.ld (some 1) 1 false (.t 21)), .u 23 (.build [.z [(.lit (.bool false))], .x 1 (.t 22)]), .u 3 (.alloc [(.lit (.bool false)), .emp]), .u 4 (.alloc [(.lit (.bool false)), .emp]), .n (.st (some 3) 2 (.t 3) (.t 20)), .n (.st (some 4) 2 (.t 4) (.t 23))])
 (.fg [1, 3, 4] (.seq (.seq (.ops false [.u 24 (.fa 1 (.t 1)), .u 25 (.ld none 1 false (.t 24)), .u 26 (.len (.t 25)), .u 27 (.bin .eql (.t 26) (.i 0)), .m 28 (.t 27), .w 29 28 false (.fa 2 (.t 1)), .w 30 28 false (.ld none 1 false (.t 29)), .w 31 28 false (.len (.t 30)), .w 32 28 false (.bin .eql (.t 31) (.i 0)), .u 33 (.pick (.t 28) .tr (.t 32)), .m 34 (.t 33), .w 35 34 false (.ld none 2 true (.t 3)), .w 36 34 false (.call f0 [(.t 35)]), .w 37 34 false (.un .not (.t 36)), .u 38 (.pick (.t 34) .tr (.t 37)), .m 39 (.t 38), .w 40 39 false (.ld none 2 true (.t 4)), .w 41 39 false (.call f0 [(.t 40)]), .w 42 39 false (.un .not (.t 41)), .u 43 (.pick (.t 39) .tr (.t 42))])
 (.fg [3, 4, 43] (.cond (.t 43) (.seq (.ops false [.m 2 .fa])
 .ret) .skip)))
 (.fg [3, 4] (.seq (.ops false [.u 44 (.ld none 2 true (.t 3)), .u 45 (.ld none 2 true (.t 4)), .u 46 (.call f1 [(.t 44), (.t 45)]), .u 47 (.call f2 []), .u 48 (.call f3 [(.t 46), (.t 47)]), .u 49 (.bin .eql (.t 48) (.i 0)), .m 2 (.t 49)])
 .ret)))))))))
def ac_fraction_Parts (f0 f1 : Nat) : AC := (.seq (.ops false [.u 1 (.box 3 (.t 0)), .u 2 (.alloc [(.lit (.bool false)), .emp]), .u 3 (.alloc [(.lit (.bool false)), .emp])])
 (.fg [1, 2, 3] (.seq (.seq (.ops false [.u 4 (.ld none 3 true (.t 1)), .u 5 (.call f0 [(.t 4)]), .u 6 (.un .not (.t 5)), .m 7 (.t 6), .w 8 7 false (.fa 1 (.t 1)), .w 9 7 false (.ld none 1 false (.t 8)), .w 10 7 false (.len (.t 9)), .w 11 7 false (.bin .eql (.t 10) (.i 0)), .u 12 (.pick (.t 7) .tr (.t 11))])
 (.fg [1, 2, 3, 12] (.cond (.t 12) (.seq (.ops false [.u 13 (.build [.z [(.lit (.bool false)), .emp]]), .u 14 (.call f1 []), .n (.st none 2 (.t 2) (.t 13)), .n (.st none 2 (.t 3) (.t 14))])
 .ret) .skip)))
 (.fg [1, 2, 3] (.seq (.ops true [.u 15 (.fa 0 (.t 1)), .u 16 (.ld none 1 false (.t 15)), .m 17 (.c (.one .emp)), .u 18 (.fa 1 (.t 1)), .u 19 (.ld none 1 false (.t 18)), .u 20 (.app0 1 (.t 17) (.t 19)), .u 21 (.build [.x 1 (.t 16), .x 1 (.t 20)]), .n (.st none 2 (.t 2) (.t 21))])
 (.fg [1, 2, 3] (.seq (.ops true [.u 22 (.ld none 2 true (.t 2)), .m 23 (.c (.one .emp)), .u 24 (.fa 2 (.t 1)), .u 25 (.ld none 1 false (.t 24)), .u 26 (.app0 1 (.t 23) (.t 25)), .u 27 (.build [.z [(.lit (.bool false))], .x 1 (.t 26)]), .n (.st none 2 (.t 2) (.t 22)), .n (.st none 2 (.t 3) (.t 27))])
 .ret)))))))
def ac_fraction_form (f0 f1 f2 f3 : Nat) : AC := (.seq (.ops false [.u 2 (.box 2 (.t 0)), .u 3 (.box 2 (.t 1)), .u 4 (.alloc [(.lit (.bool false)), .emp, .emp])])
 (.fg [2, 3, 4] (.seq (.seq (.ops false [.u 7 (.ld none 2 true (.t 2)), .u 8 (.call f0 [(.t 7)]), .u 9 (.bin .eql (.t 8) (.i 0))])
 (.fg [2, 3, 4, 9] (.cond (.t 9) (.seq (.ops false [.u 10 (.build [.z [(.lit (.bool false)), .emp, .emp]]), .n (.st none 3 (.t 4) (.t 10))])
 .ret) .skip)))
 (.fg [2, 3, 4] (.seq (.seq (.ops false [.u 11 (.ld none 2 true (.t 3)), .u 12 (.call f0 [(.t 11)]), .u 13 (.bin .lss (.t 12) (.i 0))])
 (.fg [2, 3, 4, 13] (.cond (.t 13) (.ops true [.u 14 (.ld none 2 true (.t 2)), .u 15 (.call f1 [(.t 14)]), .u 16 (.ld none 2 true (.t 3)), .u 17 (.call f1 [(.t 16)]), .n (.st none 2 (.t 2) (.t 15)), .n (.st none 2 (.t 3) (.t 17))]) .skip)))
 (.fg [2, 3, 4] (.seq (.ops false [.u 18 (.ld none 2 true (.t 2)), .u 19 (.ld none 2 true (.t 3)), .u 20 (.call f2 [(.t 18), (.t 19)]), .u 5 (.alloc [(.lit (.bool false)), .emp]), .n (.st none 2 (.t 5) (.t 20))])
 (.fg [2, 3, 4, 5] (.seq (.ops false [.u 21 (.ld none 2 true (.t 2)), .u 22 (.call f0 [(.t 21)]), .u 23 (.bin .lss (.t 22) (.i 0)), .m 6 (.t 23)])
 (.fg [2, 3, 4, 5, 6] (.seq (.seq (.ops false [.m 24 (.t 6)])
 (.fg [2, 3, 4, 5, 6, 24] (.cond (.t 24) (.ops false [.u 25 (.ld none 2 true (.t 2)), .u 26 (.call f1 [(.t 25)]), .n (.st none 2 (.t 2) (.t 26))]) .skip)))
 (.fg [2, 3, 4, 5, 6] (.seq (.ops false [.u 28 (.ld none 2 true (.t 2)), .u 29 (.ld none 2 true (.t 5)), .u 30 (.call f3 [(.t 28), (.t 29)]), .m 27 (.t 30), .u 31 (.ext 0 (.t 27)), .u 32 (.ext 1 (.t 27)), .u 33 (.ext 2 (.t 27)), .n (.st none 2 (.t 2) (.t 31))])
 (.fg [2, 3, 4, 5, 6] (.seq (.ops false [.u 35 (.ld none 2 true (.t 3)), .u 36 (.ld none 2 true (.t 5)), .u 37 (.call f3 [(.t 35), (.t 36)]), .m 34 (.t 37), .u 38 (.ext 0 (.t 34)), .u 39 (.ext 1 (.t 34)), .u 40 (.ext 2 (.t 34)), .n (.st none 2 (.t 3) (.t 38))])
 (.fg [2, 3, 4, 6] (.seq (.ops false [.m 41 (.t 6), .u 42 (.fa 1 (.t 2)), .u 43 (.ld none 1 false (.t 42)), .u 44 (.fa 1 (.t 3)), .u 45 (.ld none 1 false (.t 44)), .u 46 (.build [.x 1 (.t 41), .x 1 (.t 43), .x 1 (.t 45)]), .n (.st none 3 (.t 4) (.t 46))])
 .ret)))))))))))))))))
def ac_fraction_one (f0 : Nat) : AC := (.seq (.ops false [.u 0 (.alloc [(.lit (.bool false)), .emp])])
 (.fg [0] (.seq (.ops false [.u 1 (.call f0 [(.i 1)]), .n (.st none 2 (.t 0) (.t 1))])
 .ret)))
def ac_fraction_Of (f0 f1 f2 : Nat) : AC := (.seq (.ops false [.u 2 (.alloc [(.lit (.bool false)), .emp, .emp])])
 (.fg [0, 2] (.seq (.ops false [.m 3 (.t 0), .u 4 (.call f0 [(.t 3)]), .u 5 (.call f1 []), .u 6 (.call f2 [(.t 4), (.t 5)]), .n (.st none 3 (.t 2) (.t 6))])
 .ret)))
def ac_fraction_Neg (f0 f1 f2 : Nat) : AC := (.seq (.ops false [.u 1 (.box 3 (.t 0)), .u 2 (.alloc [(.lit (.bool false)), .emp, .emp])])
 (.fg [1, 2] (.seq (.ops false [.u 6 (.ld none 3 true (.t 1)), .u 7 (.call f0 [(.t 6)]), .m 5 (.t 7), .u 8 (.ext 0 (.t 5)), .u 9 (.ext 1 (.t 5)), .u 3 (.alloc [(.lit (.bool false)), .emp]), .u 4 (.alloc [(.lit (.bool false)), .emp]), .n (.st none 2 (.t 3) (.t 8)), .n (.st none 2 (.t 4) (.t 9))])
 (.fg [2, 3, 4] (.seq (.ops true [.u 10 (.ld none 2 true (.t 3)), .u 11 (.call f1 [(.t 10)]), .u 12 (.ld none 2 true (.t 4)), .u 13 (.call f2 [(.t 11), (.t 12)]), .n (.st none 3 (.t 2) (.t 13))])
 .ret)))))
def ac_fraction_Sign (f0 f1 : Nat) : AC := (.seq (.ops false [.u 1 (.box 3 (.t 0)), .m 2 (.i 0)])
 (.fg [1] (.seq (.ops false [.u 6 (.ld none 3 true (.t 1)), .u 7 (.call f0 [(.t 6)]), .m 5 (.t 7), .u 8 (.ext 0 (.t 5)), .u 9 (.ext 1 (.t 5)), .u 3 (.alloc [(.lit (.bool false)), .emp]), .u 4 (.alloc [(.lit (.bool false)), .emp]), .n (.st none 2 (.t 3) (.t 8)), .n (.st none 2 (.t 4) (.t 9))])
 (.fg [3] (.seq (.ops false [.u 10 (.ld none 2 true (.t 3)), .u 11 (.call f1 [(.t 10)]), .m 2 (.t 11)])
 .ret)))))
def ac_fraction_Cmp (f0 f1 f2 : Nat) : AC := (.seq (.ops false [.u 2 (.box 3 (.t 0)), .u 3 (.box 3 (.t 1)), .m 4 (.i 0)])
 (.fg [2, 3] (.seq (.ops false [.u 10 (.ld none 3 true (.t 2)), .u 11 (.call f0 [(.t 10)]), .m 9 (.t 11), .u 12 (.ext 0 (.t 9)), .u 13 (.ext 1 (.t 9)), .u 5 (.alloc [(.lit (.bool false)), .emp]), .u 6 (.alloc [(.lit (.bool false)), .emp]), .n (.st none 2 (.t 5) (.t 12)), .n (.st none 2 (.t 6) (.t 13))])
 (.fg [3, 5, 6] (.seq (.ops false [.u 15 (.ld none 3 true (.t 3)), .u 16 (.call f0 [(.t 15)]), .m 14 (.t 16), .u 17 (.ext 0 (.t 14)), .u 18 (.ext 1 (.t 14)), .u 7 (.alloc [(.lit (.bool false)), .emp]), .u 8 (.alloc [(.lit (.bool false)), .emp]), .n (.st none 2 (.t 7) (.t 17)), .n (.st none 2 (.t 8) (.t 18))])
 (.fg [5, 6, 7, 8] (.seq (.ops true [.u 19 (.ld none 2 true (.t 5)), .u 20 (.ld none 2 true (.t 8)), .u 21 (.call f1 [(.t 19), (.t 20)]), .u 22 (.ld none 2 true (.t 7)), .u 23 (.ld none 2 true (.t 6)), .u 24 (.call f1 [(.t 22), (.t 23)]), .u 25 (.call f2 [(.t 21), (.t 24)]), .m 4 (.t 25)])
 .ret)))))))
def ac_fraction_Add (f0 f1 f2 f3 : Nat) : AC := (.seq (.ops false [.u 2 (.box 3 (.t 0)), .u 3 (.box 3 (.t 1)), .u 4 (.alloc [(.lit (.bool false)), .emp, .emp])])
 (.fg [2, 3, 4] (.seq (.ops false [.u 10 (.ld none 3 true (.t 2)), .u 11 (.call f0 [(.t 10)]), .m 9 (.t 11), .u 12 (.ext 0 (.t 9)), .u 13 (.ext 1 (.t 9)), .u 5 (.alloc [(.lit (.bool false)), .emp]), .u 6 (.alloc [(.lit (.bool false)), .emp]), .n (.st none 2 (.t 5) (.t 12)), .n (.st none 2 (.t 6) (.t 13))])
 (.fg [3, 4, 5, 6] (.seq (.ops false [.u 15 (.ld none 3 true (.t 3)), .u 16 (.call f0 [(.t 15)]), .m 14 (.t 16), .u 17 (.ext 0 (.t 14)), .u 18 (.ext 1 (.t 14)), .u 7 (.alloc [(.lit (.bool false)), .emp]), .u 8 (.alloc [(.lit (.bool false)), .emp]), .n (.st none 2 (.t 7) (.t 17)), .n (.st none 2 (.t 8) (.t 18))])
 (.fg [4, 5, 6, 7, 8] (.seq (.ops true [.u 19 (.ld none 2 true (.t 5)), .u 20 (.ld none 2 true (.t 8)), .u 21 (.call f1 [(.t 19), (.t 20)]), .u 22 (.ld none 2 true (.t 7)), .u 23 (.ld none 2 true (.t 6)), .u 24 (.call f1 [(.t 22), (.t 23)]), .u 25 (.call f2 [(.t 21), (.t 24)]), .u 26 (.ld none 2 true (.t 6)), .u 27 (.ld none 2 true (.t 8)), .u 28 (.call f1 [(.t 26), (.t 27)]), .u 29 (.call f3 [(.t 25), (.t 28)]), .n (.st none 3 (.t 4) (.t 29))])
 .ret)))))))
def ac_fraction_Sub (f0 f1 : Nat) : AC := (.seq (.ops false [.u 2 (.box 3 (.t 0)), .u 3 (.box 3 (.t 1)), .u 4 (.alloc [(.lit (.bool false)), .emp, .emp])])
 (.fg [2, 3, 4] (.seq (.ops true [.u 5 (.ld none 3 true (.t 2)), .u 6 (.ld none 3 true (.t 3)), .u 7 (.call f0 [(.t 6)]), .u 8 (.call f1 [(.t 5), (.t 7)]), .n (.st none 3 (.t 4) (.t 8))])
 .ret)))
def ac_fraction_From (f0 f1 tE : Nat) : AC := (.seq (.ops false [.u 2 (.box 2 (.t 0)), .u 3 (.box 2 (.t 1)), .u 4 (.alloc [(.lit (.bool false)), .emp, .emp]), .m 5 (.c (.one (.lit .nilIface)))])
 (.fg [2, 3, 4] (.seq (.seq (.ops false [.u 6 (.ld none 2 true (.t 3)), .u 7 (.call f0 [(.t 6)]), .u 8 (.bin .eql (.t 7) (.i 0))])
 (.fg [2, 3, 4, 8] (.cond (.t 8) (.seq (.ops false [.u 9 (.build [.z [(.lit (.bool false)), .emp, .emp]]), .u 10 (.iface tE (.i 8)), .n (.st none 3 (.t 4) (.t 9)), .m 5 (.t 10)])
 .ret) .skip)))
 (.fg [2, 3, 4] (.seq (.ops false [.u 11 (.ld none 2 true (.t 2)), .u 12 (.ld none 2 true (.t 3)), .u 13 (.call f1 [(.t 11), (.t 12)]), .n (.st none 3 (.t 4) (.t 13)), .m 5 (.c (.one (.lit .nilIface)))])
 .ret)))))
theorem sign_lt {n : Int} : n.sign < 0 ↔ n < 0 := by
 rcases Int.lt_trichotomy n 0 with h | h | h
 ·rw [Int.sign_eq_neg_one_of_neg h]; omega
 ·subst h; simp
 ·rw [Int.sign_eq_one_of_pos h]; omega
theorem form_cells {n d N D : Int} {g : Nat} {m : Bool} (hd : d ≠ 0) (hn : n ≠ 0) (hN : 0 ≤ N) (hD : 0 ≤ D) (e1 : N.natAbs = n.natAbs) (e2 : D.natAbs = d.natAbs) (eg : g = Int.gcd n d) (em : m = decide (d.sign * n < 0)) :
  AV.agg [.lit (.bool m), zm (zcan (N / (g : Int))), zm (zcan (D / (g : Int)))] = .agg [cb (rcan (Rat.divInt n d)), cn (rcan (Rat.divInt n d)), cd (rcan (Rat.divInt n d))] := by
 obtain ⟨N', rfl⟩ := Int.eq_ofNat_of_zero_le hN
 obtain ⟨D', rfl⟩ := Int.eq_ofNat_of_zero_le hD
 simp only [Int.natAbs_natCast] at e1 e2
 subst e1 e2 eg em
 rw [cb_eq, cn_eq, cd_eq, rcan_divInt hd hn, zm_eq, zm_eq]
 simp only [zcan]
 rw [← Int.natCast_ediv, ← Int.natCast_ediv]
 simp only [Int.natAbs_natCast]
theorem zs_gcd {v w : Int} {s : Nat} (h : w ≠ 0) (hw : zs w ≤ s) : zs ((Int.gcd v w : Nat) : Int) ≤ s := by
 refine Nat.le_trans (zs_mono ?_) hw
 simp only [Int.natAbs_natCast]
 exact Nat.le_of_dvd (by omega) (Int.gcd_dvd_natAbs_right _ _)
theorem ordI_zero {a b : Int} : ordI a b = 0 ↔ a = b := by unfold ordI; split <;> (try split) <;> omega
theorem vldW_f {l : List Nat} (h : l ≠ []) : vldW (false, l) = decide (NZ l) := by unfold vldW; rw [if_neg h]
theorem zv_f {l : List Nat} (h : NZ l) : zv (false, l) = (val l : Int) := by
 unfold zv
 by_cases e : l = []
 ·subst e; simp [vldW]
 ·rw [vldW_f e]; simp [h]
theorem rone_sound (hΓ : Holds P Γ) {f fo : Nat} (ho : Γ fo = .dat false zof_G) (hc : check P f = some (2, (ac_fraction_one fo).strip, [.cell 0 2 true])) : Sound P f (.dat false rone_G) := by
 refine sound_dat hc rone_good hΓ (fun args K hcl hfi hG => ?_)
 match args, hG with
 | [], hG =>
  have hK := hG
  simp only [rone_G] at hK
  refine ⟨by simp, ?_⟩
  simp only [go_sem, ac_fraction_one, ho]
  refine ⟨by omega, by omega, hK⟩
theorem rvalid_sound (hΓ : Holds P Γ) {f fv fg fo fc : Nat} (hv : Γ fv = .dat true zvalid_G) (hg : Γ fg = .dat false zgcd_G) (ho : Γ fo = .dat false rone_G) (hc' : Γ fc = .dat true zcmp_G) (hc : check P f = some (50, (ac_fraction_Valid fv fg fo fc).strip, [.tmp 2])) : Sound P f (.dat true rvalid_G) := by
 refine sound_dat hc rvalid_good hΓ (fun args K hcl hfi hG => ?_)
 match args, hG with
 | [a], hG =>
  obtain ⟨x, rfl, hx, hl, hK⟩ := hG
  refine ⟨by simp, ?_⟩
  simp only [go_sem, ac_fraction_Valid, hv, hg, ho, hc', cb_eq, cn_eq, cd_eq]
  have hl1 : x.2.1.length ≤ 4294967296 := Nat.le_trans (Nat.le_max_left _ _) hl
  have hl2 : x.2.2.length ≤ 4294967296 := Nat.le_trans (Nat.le_max_right _ _) hl
  have key : x.2.1 ≠ [] → x.2.2 ≠ [] → WL x.2.1 ∧ (vldW (false, x.2.1) = true → WL x.2.2 ∧ (vldW (false, x.2.2) = true → WL x.2.1 ∧ WL x.2.2 ∧ zs (zv (false, x.2.1)) ≤ 17179869184 ∧ zs (zv (false, x.2.2)) ≤ 17179869184 ∧
    K (AV.one (C.lit (Value.bool (decide (ordI (((zv (false, x.2.1)).gcd (zv (false, x.2.2)) : Nat) : Int) 1 = 0)))))) ∧ (vldW (false, x.2.2) = false → K (AV.one (C.lit (Value.bool false))))) ∧ (vldW (false, x.2.1) = false → K (AV.one (C.lit (Value.bool false)))) := by
   intro hn hd
   unfold vldR at hK
   rw [if_neg (fun e => hn e.1)] at hK
   rw [vldW_f hn, vldW_f hd]
   refine ⟨hx.1, fun h1 => ⟨hx.2, fun h2 => ⟨hx.1, hx.2, ?_, ?_, ?_⟩, fun h2 => ?_⟩, fun h1 => ?_⟩
   ·rw [zv_f (of_decide_eq_true h1), zs_nat, digs_val hx.1 (of_decide_eq_true h1)]; omega
   ·rw [zv_f (of_decide_eq_true h2), zs_nat, digs_val hx.2 (of_decide_eq_true h2)]; omega
   ·rw [zv_f (of_decide_eq_true h1), zv_f (of_decide_eq_true h2)]
    have e : decide (ordI (((((val x.2.1 : Nat) : Int)).gcd ((val x.2.2 : Nat) : Int) : Nat) : Int) 1 = 0) = decide (x.2.1 ≠ [] ∧ x.2.2 ≠ [] ∧ NZ x.2.1 ∧ NZ x.2.2 ∧ Nat.gcd (val x.2.1) (val x.2.2) = 1) := by
     rw [decide_eq_decide, ordI_zero, Int.gcd_natCast_natCast]
     have h1' := of_decide_eq_true h1
     have h2' := of_decide_eq_true h2
     constructor
     ·intro h; exact ⟨hn, hd, h1', h2', by omega⟩
     ·rintro ⟨_, _, _, _, h⟩; omega
    rw [e]; exact hK
   ·rw [decide_eq_false (fun h => of_decide_eq_false h2 h.2.2.2.1)] at hK; exact hK
   ·rw [decide_eq_false (fun h => of_decide_eq_false h1 h.2.2.1)] at hK; exact hK
  have e0 : ∀ {l : List Nat}, ¬ l.length = 0 → l ≠ [] := fun h e => h (by rw [e]; rfl)
  have key0 : ¬ (x.2.1 = [] ∧ x.2.2 = []) → (x.2.1 = [] ∨ x.2.2 = []) → K (AV.one (C.lit (Value.bool false))) := by
   intro h1 h2
   unfold vldR at hK
   rw [if_neg h1, decide_eq_false (fun h => h2.elim h.1 h.2.1)] at hK
   exact hK
  refine fun _ => ⟨fun hn _ => ⟨fun hd => ?_, fun hd _ => ⟨fun h => ?_, fun h => absurd hn h⟩⟩, fun hn _ => ⟨fun h => absurd h hn, fun _ _ => ⟨fun hd => ?_, fun hd => key (e0 hn) (e0 hd)⟩⟩⟩
  ·unfold vldR at hK
   rw [if_pos ⟨List.eq_nil_of_length_eq_zero hn, List.eq_nil_of_length_eq_zero hd⟩] at hK; exact hK
  ·exact key0 (fun h => e0 hd h.2) (.inl (List.eq_nil_of_length_eq_zero hn))
  ·exact key0 (fun h => e0 hn h.1) (.inr (List.eq_nil_of_length_eq_zero hd))
theorem rparts_sound (hΓ : Holds P Γ) {f fv fo : Nat} (hv : Γ fv = .dat true rvalid_G) (ho : Γ fo = .dat false rone_G) (hc : check P f = some (28, (ac_fraction_Parts fv fo).strip, [.cell 2 2 true, .cell 3 2 true])) : Sound P f (.dat false rparts_G) := by
 refine sound_dat hc rparts_good hΓ (fun args K hcl hfi hG => ?_)
 match args, hG with
 | [a], hG =>
  obtain ⟨x, rfl, hx, hl, hK⟩ := hG
  refine ⟨by simp, ?_⟩
  simp only [go_sem, ac_fraction_Parts, hv, ho, cb_eq, cn_eq, cd_eq]
  have hl1 : x.2.1.length ≤ 4294967296 := Nat.le_trans (Nat.le_max_left _ _) hl
  have hl2 : x.2.2.length ≤ 4294967296 := Nat.le_trans (Nat.le_max_right _ _) hl
  have e0 : (zcan 0) = (false, []) := by simp [zcan, digs_zero]
  have h0 : rv x = 0 → K (AV.tup [AV.agg [C.lit (Value.bool false), C.slice []], AV.agg [zb (zcan 1), zm (zcan 1)]]) := by
   intro h
   rw [h] at hK
   have e1 : ((0 : Rat).num) = 0 := rfl
   have e2 : ((0 : Rat).den : Int) = 1 := rfl
   rw [e1, e2, e0] at hK; exact hK
  refine ⟨hx, hl, fun hv _ => ⟨fun hn => h0 ?_, fun hn => ⟨by omega, by omega, ?_⟩⟩, fun hv => h0 (rv_nvld hv)⟩
  ·unfold rv; rw [if_pos hv, List.eq_nil_of_length_eq_zero hn]; simp [val, sg]
  ·obtain ⟨p1, p2, p3, p4, p5, p6⟩ := rv_parts hx hv (fun e => hn (by rw [e]; rfl))
   have hn0 := val_pos_of_NZ p4 (fun e => hn (by rw [e]; rfl))
   rw [p1, p2] at hK
   have e1 : zcan (sg x.1 (val x.2.1)) = (x.1, x.2.1) := by
    rw [← can_sg, digs_val hx.1 p4]
    have : decide (0 < x.2.1.length) = true := by simp only [decide_eq_true_eq]; omega
    rw [this, Bool.and_true]
   have e2 : zcan ((val x.2.2 : Nat) : Int) = (false, x.2.2) := by
    have := can_sg false (val x.2.2)
    rw [digs_val hx.2 p5, Bool.false_and] at this
    exact this.symm
   rw [e1, e2] at hK; exact hK
theorem rform_sound (hΓ : Holds P Γ) {f fs fn fg fd : Nat} (hs : Γ fs = .dat true zsign_G) (hn : Γ fn = .dat false zneg_G) (hg : Γ fg = .dat false zgcd_G) (hd : Γ fd = .dat false zdiv_G) (hc : check P f = some (47, (ac_fraction_form fs fn fg fd).strip, [.cell 4 3 true])) : Sound P f (.dat false rform_G) := by
 refine sound_dat hc rform_good hΓ (fun args K hcl hfi hG => ?_)
 match args, hG with
 | [a, b], hG =>
  obtain ⟨v, rfl, hv, w, rfl, hw, hz, hz', h0, hK⟩ := hG
  refine ⟨by simp, ?_⟩
  simp only [go_sem, ac_fraction_form, hs, hn, hg, hd, hv, hw]
  generalize zv v = n at *
  generalize zv w = d at *
  have hd0 := h0
  refine ⟨fun h => ?_, fun h => ?_⟩
  ·rw [Int.sign_eq_zero_iff_zero.1 h, Rat.zero_divInt, rcan_zero] at hK; exact hK
  have hn0 : n ≠ 0 := fun e => h (by rw [e]; rfl)
  have hg0 : ((Int.gcd n d : Nat) : Int) ≠ 0 := by
   have := Int.gcd_pos_of_ne_zero_left d hn0; omega
  have hgz : zs ((Int.gcd n d : Nat) : Int) ≤ 17179869184 := zs_gcd hd0 hz'
  simp only [Int.gcd_neg, Int.neg_gcd, zs_neg, sign_lt]
  refine ⟨fun hdn => ⟨by omega, by omega, hz, hz', fun hnn => ⟨by omega, hz, hgz, hg0, hz', hgz, hg0, ?_⟩, fun hnn => ⟨hz, hgz, hg0, hz', hgz, hg0, ?_⟩⟩, fun hdn => ⟨hz, hz', fun hnn => ⟨by omega, hz, hgz, hg0, hz', hgz, hg0, ?_⟩, fun hnn => ⟨hz, hgz, hg0, hz', hgz, hg0, ?_⟩⟩⟩
  ·rw [form_cells hd0 hn0 (by omega) (by omega) (by omega) (by omega) rfl (by rw [decide_eq_decide, Int.sign_eq_neg_one_of_neg hdn]; omega)]; exact hK
  ·rw [form_cells hd0 hn0 (by omega) (by omega) (by omega) (by omega) rfl (by rw [decide_eq_decide, Int.sign_eq_neg_one_of_neg hdn]; omega)]; exact hK
  ·rw [form_cells hd0 hn0 (by omega) (by omega) (by omega) (by omega) rfl (by rw [decide_eq_decide, Int.sign_eq_one_of_pos (by omega)]; omega)]; exact hK
  ·rw [form_cells hd0 hn0 (by omega) (by omega) (by omega) (by omega) rfl (by rw [decide_eq_decide, Int.sign_eq_one_of_pos (by omega)]; omega)]; exact hK
theorem rof_sound (hΓ : Holds P Γ) {f fo fn ff : Nat} (ho : Γ fo = .dat false zof_G) (hn : Γ fn = .dat false rone_G) (hf : Γ ff = .dat false rform_G) (hc : check P f = some (7, (ac_fraction_Of fo fn ff).strip, [.cell 2 3 true])) : Sound P f (.dat false rof_G) := by
 refine sound_dat hc rof_good hΓ (fun args K hcl hfi hG => ?_)
 match args, hG with
 | [a], hG =>
  obtain ⟨k, n, rfl, rfl, hn1, hn2, hK⟩ := asInt_inv hG
  refine ⟨by simp, ?_⟩
  simp only [go_sem, ac_fraction_Of, ho, hn, hf]
  have e : Rat.divInt n 1 = (n : Rat) := Rat.num_divInt_den (n : Rat)
  rw [e]
  have h1 : zs 1 ≤ 2 := zs_of (by decide)
  have h2 : zs n ≤ 2 := zs_of (by omega)
  exact ⟨hn1, hn2, by omega, by omega, by decide, hK⟩
theorem rneg_sound (hΓ : Holds P Γ) {f fp fn ff : Nat} (hp : Γ fp = .dat false rparts_G) (hn : Γ fn = .dat false zneg_G) (hf : Γ ff = .dat false rform_G) (hc : check P f = some (14, (ac_fraction_Neg fp fn ff).strip, [.cell 2 3 true])) : Sound P f (.dat false rneg_G) := by
 refine sound_dat hc rneg_good hΓ (fun args K hcl hfi hG => ?_)
 match args, hG with
 | [a], hG =>
  obtain ⟨x, rfl, hx, hl, hK⟩ := hG
  refine ⟨by simp, ?_⟩
  simp only [go_sem, ac_fraction_Neg, hp, hn, hf, hx]
  have n1 := num_le hx
  have d1 := den_le hx
  rw [neg_parts, zs_neg]
  exact ⟨hl, by omega, by omega, by omega, den_ne _, hK⟩
theorem rsign_sound (hΓ : Holds P Γ) {f fp fs : Nat} (hp : Γ fp = .dat false rparts_G) (hs : Γ fs = .dat true zsign_G) (hc : check P f = some (12, (ac_fraction_Sign fp fs).strip, [.tmp 2])) : Sound P f (.dat true rsign_G) := by
 refine sound_dat hc rsign_good hΓ (fun args K hcl hfi hG => ?_)
 match args, hG with
 | [a], hG =>
  obtain ⟨x, rfl, hx, hl, hK⟩ := hG
  refine ⟨by simp, ?_⟩
  simp only [go_sem, ac_fraction_Sign, hp, hs, hx]
  rw [← ordQ_zero]
  exact ⟨hl, hK⟩
theorem radd_sound (hΓ : Holds P Γ) {f fp fm fa ff : Nat} (hp : Γ fp = .dat false rparts_G) (hm : Γ fm = .dat false zmul_G) (ha : Γ fa = .dat false zadd_G) (hf : Γ ff = .dat false rform_G) (hc : check P f = some (30, (ac_fraction_Add fp fm fa ff).strip, [.cell 4 3 true])) : Sound P f (.dat false radd_G) := by
 refine sound_dat hc radd_good hΓ (fun args K hcl hfi hG => ?_)
 match args, hG with
 | [a, b], hG =>
  obtain ⟨x, rfl, hx, y, rfl, hy, hl, hl', hK⟩ := hG
  refine ⟨by simp, ?_⟩
  simp only [go_sem, ac_fraction_Add, hp, hm, ha, hf, hx, hy]
  have n1 := num_le hx
  have d1 := den_le hx
  have n2 := num_le hy
  have d2 := den_le hy
  rw [Int.natCast_mul, add_parts]
  have m1 := zs_mul (rv x).num (rv y).den
  have m2 := zs_mul (rv y).num (rv x).den
  have m3 := zs_mul ((rv x).den : Int) (rv y).den
  have a1 := zs_add ((rv x).num * (rv y).den) ((rv y).num * (rv x).den)
  exact ⟨hl, hl', by omega, by omega, by omega, by omega, by omega, by omega, by omega, by omega, by omega, by omega, Int.mul_ne_zero (den_ne _) (den_ne _), hK⟩
theorem rsub_sound (hΓ : Holds P Γ) {f fn fa : Nat} (hn : Γ fn = .dat false rneg_G) (ha : Γ fa = .dat false radd_G) (hc : check P f = some (9, (ac_fraction_Sub fn fa).strip, [.cell 4 3 true])) : Sound P f (.dat false rsub_G) := by
 refine sound_dat hc rsub_good hΓ (fun args K hcl hfi hG => ?_)
 match args, hG with
 | [a, b], hG =>
  obtain ⟨x, rfl, hx, y, rfl, hy, hl, hl', hK⟩ := hG
  refine ⟨by simp, ?_⟩
  simp only [go_sem, ac_fraction_Sub, hn, ha, hx, hy]
  rw [← Rat.sub_eq_add_neg, rz_neg]
  exact ⟨hl', hl, Nat.le_trans (rz_rv hy) hl', hK⟩
end Go.Abs
end
section
set_option linter.unusedVariables false
set_option linter.unusedSimpArgs false
namespace Go.Num
def bln (n : Nat) : Nat := if n = 0 then 0 else bln (n / 2) + 1
termination_by n
decreasing_by omega
theorem bln_zero : bln 0 = 0 := by rw [bln]; rfl
theorem bln_pos {n : Nat} (h : n ≠ 0) : bln n = bln (n / 2) + 1 := by rw [bln, if_neg h]
theorem lt_bln (n : Nat) : n < 2 ^ bln n := by
 induction n using Nat.strongRecOn with
 | _ n ih =>
  by_cases h : n = 0
  ·subst h; rw [bln_zero]; decide
  ·rw [bln_pos h, Nat.pow_succ]
   have := ih (n / 2) (by omega)
   omega
theorem bln_le {n k : Nat} (h : n < 2 ^ k) : bln n ≤ k := by
  induction k generalizing n with
  | zero => have : n = 0 := by omega
            subst this; rw [bln_zero]; exact Nat.le_refl _
  | succ k ih =>
    by_cases h0 : n = 0
    · subst h0; rw [bln_zero]; omega
    · rw [bln_pos h0]
      have := ih (n := n / 2) (by rw [Nat.pow_succ] at h; omega)
      omega
theorem val_cut (l : List Nat) (m : Nat) : val l = val (l.take m) + 4294967296 ^ m * val (l.drop m) := by
 by_cases h : m ≤ l.length
 ·conv => lhs; rw [← List.take_append_drop m l, val_append, List.length_take, Nat.min_eq_left h]
 ·rw [List.take_of_length_le (by omega), List.drop_of_length_le (by omega)]; simp [val]
theorem val_drop (l : List Nat) (m : Nat) : val (l.drop m) = l.getD m 0 + 4294967296 * val (l.drop (m + 1)) := by
 by_cases h : m < l.length
 ·have := drop_cons l (n := m + 1) (by omega) (by omega)
  exact this
 ·rw [List.drop_of_length_le (by omega), List.drop_of_length_le (by omega), List.getD_eq_getElem?_getD, List.getElem?_eq_none (by omega)]; simp [val]
theorem take_lt {l : List Nat} (h : WL l) (m : Nat) : val (l.take m) < 4294967296 ^ m :=
 Nat.lt_of_lt_of_le (val_lt (WL_take h m)) (Nat.pow_le_pow_right (by omega) (by rw [List.length_take]; omega))
theorem cmp_at {x y : List Nat} {m : Nat} (hx : WL x) (hd : val (x.drop (m + 1)) = val (y.drop (m + 1))) (h : x.getD m 0 < y.getD m 0) : val x < val y := by
 have h1 := val_cut x m
 have h2 := val_cut y m
 have h3 := take_lt hx m
 rw [val_drop, hd] at h1
 rw [val_drop] at h2
 generalize 4294967296 ^ m = p at *
 have : p * (x.getD m 0 + 4294967296 * val (y.drop (m + 1)) + 1) ≤ p * (y.getD m 0 + 4294967296 * val (y.drop (m + 1))) := Nat.mul_le_mul_left _ (by omega)
 rw [Nat.mul_add p _ 1] at this
 omega
theorem minus_e {x y c : Nat} (hx : x < 4294967296) (hy : y < 4294967296) (hc : c ≤ 1) : ∃ s : Nat, ((((4294967296 + (x : Int)) % 18446744073709551616 - (y : Int)) % 18446744073709551616 - (c : Int)) % 18446744073709551616) = (s : Int) ∧
  (1 - (s : Int) / 4294967296) % 18446744073709551616 = ((1 - s / 4294967296 : Nat) : Int) ∧ s % 4294967296 + y + c = x + 4294967296 * (1 - s / 4294967296) ∧ 1 - s / 4294967296 ≤ 1 := by
 exact ⟨4294967296 + x - y - c, by omega, by omega, by omega, by omega⟩
theorem plus_aux {V Q c xa ya a b u w B : Nat} (h : V + Q * c = xa + ya) (hs : u + B * w = a + b + c) : V + Q * u + Q * B * w = xa + Q * a + (ya + Q * b) := by
 have := congrArg (Q * ·) hs
 simp only [Nat.mul_add] at this
 rw [Nat.mul_assoc Q B w]
 omega
theorem len_od {o l post : List Nat} (h : o.length ≤ l.length) : (o ++ (l.drop o.length ++ post)).length = l.length + post.length := by simp; omega
theorem take_od {o l post : List Nat} (h : o.length ≤ l.length) : (o ++ (l.drop o.length ++ post)).take l.length = o ++ l.drop o.length := by
 rw [← List.append_assoc, List.take_append_of_le_length (by simp; omega), List.take_of_length_le (by simp; omega)]
theorem get_od (o l : List Nat) (k : Nat) : (o ++ l.drop o.length).getD (o.length + k) 0 = l.getD (o.length + k) 0 := by
 simp only [List.getD_eq_getElem?_getD]
 rw [List.getElem?_append_right (by omega), List.getElem?_drop, show o.length + (o.length + k - o.length) = o.length + k by omega]
theorem get_od0 (o l : List Nat) : (o ++ l.drop o.length).getD o.length 0 = l.getD o.length 0 := get_od o l 0
theorem set_od {o l post : List Nat} (v : Nat) (h : o.length < l.length) : (o ++ (l.drop o.length ++ post)).set o.length v = (o ++ [v]) ++ (l.drop (o ++ [v]).length ++ post) := by
 have := set_mid [] o l post v h
 simpa using this
theorem len_od0 {o l : List Nat} (h : o.length ≤ l.length) : (o ++ l.drop o.length).length = l.length := by simp; omega
theorem set_od0 {o l : List Nat} (v : Nat) (h : o.length < l.length) : (o ++ l.drop o.length).set o.length v = (o ++ [v]) ++ l.drop (o ++ [v]).length := by
 have := set_od (post := []) v h
 simpa using this
theorem WL_od {o l : List Nat} (ho : WL o) (hl : WL l) : WL (o ++ l.drop o.length) := WL_append.2 ⟨ho, WL_drop hl _⟩
theorem halve_or {a b : Nat} (ha : a < 4294967296) (hb : b < 4294967296) : (a / 2 ||| b * 2147483648 % 18446744073709551616) % 4294967296 = (a + 4294967296 * b) / 2 ^ 1 % 4294967296 := by
 have := Nat.two_pow_add_eq_or_of_lt (i := 31) (b := a / 2) (by omega) b
 rw [Nat.mod_eq_of_lt (show b * 2147483648 < 18446744073709551616 by omega), Nat.or_comm, show b * 2147483648 = 2 ^ 31 * b by omega, ← this]
 omega
theorem get_app {l post : List Nat} {i : Nat} (h : i < l.length) : (l ++ post).getD i 0 = l.getD i 0 := by
 simp only [List.getD_eq_getElem?_getD]; rw [List.getElem?_append_left h]
theorem digs_pos_len {a : Nat} (h : a ≠ 0) : 0 < (digs a).length := by rw [digs_pos h]; simp
theorem digs_head {a : Nat} (h : a ≠ 0) (p : List Nat) : (digs a ++ p).getD 0 0 = a % 4294967296 := by rw [digs_pos h]; rfl
theorem digs_len0 {a : Nat} : (digs a).length = 0 ↔ a = 0 := by rw [List.length_eq_zero_iff, digs_eq_nil]
theorem gcd_ee {a b k g : Nat} (ha : a % 2 = 0) (hb : b % 2 = 0) (h : Nat.gcd a b * 2 ^ k = g) : Nat.gcd (a / 2) (b / 2) * 2 ^ (k + 1) = g := by
 obtain ⟨a', rfl⟩ : ∃ a', a = 2 * a' := ⟨a / 2, by omega⟩
 obtain ⟨b', rfl⟩ : ∃ b', b = 2 * b' := ⟨b / 2, by omega⟩
 rw [Nat.gcd_mul_left] at h
 rw [Nat.mul_div_cancel_left _ (by omega), Nat.mul_div_cancel_left _ (by omega), Nat.pow_succ, ← h]
 rw [Nat.mul_comm (2 ^ k) 2, ← Nat.mul_assoc, Nat.mul_comm _ 2]
theorem gcd_eo {a b : Nat} (ha : a % 2 = 0) (hb : b % 2 ≠ 0) : Nat.gcd (a / 2) b = Nat.gcd a b := by
 obtain ⟨a', rfl⟩ : ∃ a', a = 2 * a' := ⟨a / 2, by omega⟩
 rw [Nat.mul_div_cancel_left _ (by omega)]
 have : Nat.Coprime 2 b := by
  rw [Nat.coprime_iff_gcd_eq_one, Nat.gcd_rec, show b % 2 = 1 by omega]; rfl
 exact (Nat.Coprime.gcd_mul_left_cancel a' this).symm
theorem gcd_oe {a b : Nat} (ha : a % 2 ≠ 0) (hb : b % 2 = 0) : Nat.gcd a (b / 2) = Nat.gcd a b := by
 rw [Nat.gcd_comm a, Nat.gcd_comm a]; exact gcd_eo hb ha
theorem gcd_sub {a b : Nat} (h : b ≤ a) : Nat.gcd (a - b) b = Nat.gcd a b := Nat.gcd_sub_self_left h
theorem pow_lim {k n : Nat} (h : 2 ^ k ≤ n) {s : Nat} (hn : n < 4294967296 ^ s) : k < 32 * s := by
 have e : (4294967296 : Nat) ^ s = 2 ^ (32 * s) := by rw [Nat.pow_mul]
 rw [e] at hn
 exact (Nat.pow_lt_pow_iff_right (by omega)).1 (Nat.lt_of_le_of_lt h hn)
theorem ordN_neg {a b : Nat} : ordN a b < 0 ↔ a < b := by unfold ordN; split <;> (try split) <;> omega
theorem bits_lt {x : List Nat} (hx : WL x) (h : x.length ≠ 0) : val x < 2 ^ (32 * (x.length - 1) + bln (x.getD (x.length - 1) 0)) := by
 have h1 := val_cut x (x.length - 1)
 have h2 := val_drop x (x.length - 1)
 rw [show x.length - 1 + 1 = x.length by omega, List.drop_length] at h2
 have h3 := take_lt hx (x.length - 1)
 have h4 := lt_bln (x.getD (x.length - 1) 0)
 have e : (4294967296 : Nat) ^ (x.length - 1) = 2 ^ (32 * (x.length - 1)) := by rw [Nat.pow_mul]
 rw [h2, show val [] = 0 from rfl, Nat.mul_zero, Nat.add_zero] at h1
 rw [Nat.pow_add, ← e]
 generalize 4294967296 ^ (x.length - 1) = p at *
 generalize 2 ^ bln (x.getD (x.length - 1) 0) = q at *
 have : p * (x.getD (x.length - 1) 0 + 1) ≤ p * q := Nat.mul_le_mul_left _ h4
 rw [Nat.mul_add, Nat.mul_one] at this
 omega
theorem digit (x : List Nat) {m : Nat} (hx : WL x) : val x / 4294967296 ^ m = x.getD m 0 + 4294967296 * val (x.drop (m + 1)) := by
 rw [val_cut x m, val_drop, Nat.add_mul_div_left _ _ (Nat.pow_pos (by omega)), Nat.div_eq_of_lt (take_lt hx m), Nat.zero_add]
theorem pow_parts (i : Nat) : (2 : Nat) ^ i = 4294967296 ^ (i / 32) * 2 ^ (i % 32) := by
 have e : (4294967296 : Nat) ^ (i / 32) = 2 ^ (32 * (i / 32)) := by rw [Nat.pow_mul]
 rw [e, ← Nat.pow_add, Nat.div_add_mod]
theorem bit_at {x : List Nat} (hx : WL x) (i : Nat) : x.getD (i / 32) 0 / 2 ^ (i % 32) % 2 = val x / 2 ^ i % 2 := by
 rw [pow_parts i, ← Nat.div_div_eq_div_mul, digit x hx]
 have hs : i % 32 < 32 := Nat.mod_lt _ (by omega)
 generalize i % 32 = s at *
 generalize val (x.drop (i / 32 + 1)) = r
 have e : (4294967296 : Nat) = 2 ^ s * (2 * 2 ^ (31 - s)) := by
  rw [Nat.mul_left_comm, ← Nat.pow_add, show s + (31 - s) = 31 by omega]
 rw [e, Nat.mul_assoc, Nat.add_mul_div_left _ _ (Nat.pow_pos (by omega)), Nat.mul_assoc, Nat.add_mul_mod_self_left]
theorem bit_next (v i : Nat) : v / 2 ^ i = 2 * (v / 2 ^ (i + 1)) + v / 2 ^ i % 2 := by
 rw [Nat.pow_succ, ← Nat.div_div_eq_div_mul]; omega
theorem shl_or {a c : Nat} (hc : c ≤ 1) : a * 2 % 4294967296 ||| c = a * 2 % 4294967296 + c := by
 have := Nat.two_pow_add_eq_or_of_lt (i := 1) (b := c) (by omega) (a * 2 % 4294967296 / 2)
 rw [show 2 ^ 1 * (a * 2 % 4294967296 / 2) = a * 2 % 4294967296 by omega] at this
 exact this.symm
theorem set_bit {a s : Nat} (hs : s < 32) (h : a % 2 ^ (s + 1) = 0) : a ||| 2 ^ s = a + 2 ^ s := by
 have := Nat.two_pow_add_eq_or_of_lt (i := s + 1) (b := 2 ^ s) (Nat.pow_lt_pow_right (by omega) (by omega)) (a / 2 ^ (s + 1))
 rw [Nat.mul_div_cancel' (Nat.dvd_of_mod_eq_zero h)] at this
 exact this.symm
theorem low_bits {q : List Nat} (hq : WL q) {i Q : Nat} (h : val q = Q * 2 ^ (i + 1)) : q.getD (i / 32) 0 % 2 ^ (i % 32 + 1) = 0 := by
 have hs : i % 32 < 32 := Nat.mod_lt _ (by omega)
 have h1 := digit q hq (m := i / 32)
 have e1 : (2 : Nat) ^ (i + 1) = 4294967296 ^ (i / 32) * 2 ^ (i % 32 + 1) := by rw [Nat.pow_succ, pow_parts, Nat.pow_succ, Nat.mul_assoc]
 rw [h, e1, Nat.mul_left_comm, Nat.mul_div_cancel_left _ (Nat.pow_pos (by omega))] at h1
 generalize i % 32 = s at *
 generalize val (q.drop (i / 32 + 1)) = r at *
 have e2 : (4294967296 : Nat) = 2 ^ (s + 1) * 2 ^ (31 - s) := by
  rw [← Nat.pow_add, show s + 1 + (31 - s) = 32 by omega]
 have : (q.getD (i / 32) 0 + 4294967296 * r) % 2 ^ (s + 1) = 0 := by rw [← h1]; exact Nat.mul_mod_left _ _
 rw [e2, Nat.mul_assoc, Nat.add_mul_mod_self_left] at this
 exact this
theorem shl_step {vo p c tr bit x : Nat} (h : vo + p * c = 2 * tr + bit) (hx : x < 4294967296) : vo + p * (x * 2 % 4294967296 + c) + p * 4294967296 * (x / 2147483648) = 2 * (tr + p * x) + bit := by
 have e : x * 2 % 4294967296 + 4294967296 * (x / 2147483648) = 2 * x := by omega
 have := congrArg (p * ·) e
 simp only [Nat.mul_add] at this ⊢
 rw [Nat.mul_assoc p 4294967296]
 have e2 : p * (2 * x) = 2 * (p * x) := by rw [Nat.mul_left_comm]
 omega
theorem div_step1 {v y i q r bit : Nat} (hy : 0 < y) (hb : v / 2 ^ i % 2 = bit) (hq : q = v / 2 ^ (i + 1) / y * 2 ^ (i + 1)) (hr : r = v / 2 ^ (i + 1) % y) (h : y ≤ 2 * r + bit) : q + 2 ^ i = v / 2 ^ i / y * 2 ^ i ∧ 2 * r + bit - y = v / 2 ^ i % y := by
 have e := bit_next v i
 rw [hb] at e
 have d := Nat.div_add_mod (v / 2 ^ (i + 1)) y
 have hm := Nat.mod_lt (v / 2 ^ (i + 1)) hy
 rw [← hr] at d hm
 generalize hQ : v / 2 ^ (i + 1) / y = Q at *
 generalize v / 2 ^ (i + 1) = X at *
 have hb1 : bit ≤ 1 := by omega
 have key : v / 2 ^ i = y * (2 * Q + 1) + (2 * r + bit - y) := by
  have e2 : y * (2 * Q + 1) = 2 * (y * Q) + y := by rw [Nat.mul_add, Nat.mul_one, Nat.mul_left_comm y 2 Q]
  rw [e, ← d, e2]; omega
 have hlt : 2 * r + bit - y < y := by omega
 constructor
 ·rw [key, Nat.mul_add_div hy, Nat.div_eq_of_lt hlt, Nat.add_zero, hq, Nat.pow_succ, Nat.add_mul, Nat.one_mul, Nat.mul_comm 2 Q, Nat.mul_assoc, Nat.mul_comm 2]
 ·rw [key, Nat.mul_add_mod, Nat.mod_eq_of_lt hlt]
theorem div_step0 {v y i q r bit : Nat} (hy : 0 < y) (hb : v / 2 ^ i % 2 = bit) (hq : q = v / 2 ^ (i + 1) / y * 2 ^ (i + 1)) (hr : r = v / 2 ^ (i + 1) % y) (h : 2 * r + bit < y) : q = v / 2 ^ i / y * 2 ^ i ∧ 2 * r + bit = v / 2 ^ i % y := by
 have e := bit_next v i
 rw [hb] at e
 have d := Nat.div_add_mod (v / 2 ^ (i + 1)) y
 rw [← hr] at d
 generalize hQ : v / 2 ^ (i + 1) / y = Q at *
 generalize v / 2 ^ (i + 1) = X at *
 have key : v / 2 ^ i = y * (2 * Q) + (2 * r + bit) := by
  have e2 : y * (2 * Q) = 2 * (y * Q) := by rw [Nat.mul_left_comm y 2 Q]
  rw [e, ← d, e2]; omega
 constructor
 ·rw [key, Nat.mul_add_div hy, Nat.div_eq_of_lt h, Nat.add_zero, hq, Nat.pow_succ, Nat.mul_comm 2 Q, Nat.mul_assoc, Nat.mul_comm 2]
 ·rw [key, Nat.mul_add_mod, Nat.mod_eq_of_lt h]
end Go.Num
namespace Go.Abs
open Go.Num
theorem share4 {c1 c2 c3 p d1 d2 d3 q X L : Prop} (h1 : c1) (h2 : c2) (h3 : c3) (k1 : d1) (k2 : d2) (k3 : d3) (hx : p → q → X) (hl : ¬ p ∨ ¬ q → L) : c1 ∧ c2 ∧ c3 ∧ (p → d1 ∧ d2 ∧ d3 ∧ (q → X) ∧ (¬ q → L)) ∧ (¬ p → L) :=
 ⟨h1, h2, h3, fun hp => ⟨k1, k2, k3, hx hp, fun hq => hl (.inr hq)⟩, fun hp => hl (.inl hp)⟩
theorem and32_1 (K : AV → Prop) (a : Nat) : arith K .and .u32 (a : Int) 1 = (a < 2 ^ IntKind.u32.bits ∧ intR K .u32 ((a % 2 : Nat) : Int)) := arith_and1 K .u32 a rfl (by decide)
theorem okH_1' {h' : Nat → HB} {k v v' z : Nat} {b : Bool} {es : List (List C)} {l' : List Nat} {r : List (Nat × HB)} (e : es = l'.map wc) : okH (mkH ((k, ⟨v, some ⟨es, z, b⟩⟩) :: r)) h' [(k, ⟨v', some ⟨l'.map wc, z, b⟩⟩)] := by
 subst e; exact okH_1 rfl
theorem okB_wc' {h h' : Nat → HB} {z : Nat} {b : Bool} {es : List (List C)} {l' : List Nat} (e : es = l'.map wc) : okB h h' (some ⟨es, z, b⟩) (some ⟨l'.map wc, z, b⟩) := by
 subst e; exact okB_wc rfl
theorem set_wc' (L : List Nat) (i s : Nat) : (L.map wc).set i [C.lit (.int .u32 ((s : Int) % 4294967296))] = (L.set i (s % 4294967296)).map wc := by
 rw [List.map_set]; simp [wc]
def onWx (k : List Nat → Prop) (a : AV) : Prop := ∃ l, (a = .one (ws l) ∨ a = .one (.full (l.map wc)) ∨ (a = .one .emp ∧ l = [])) ∧ WL l ∧ k l
@[congr] theorem onWx_cg {k : List Nat → Prop} {a a' : AV} (h : a = a') : onWx k a = onWx k a' := by subst h; rfl
theorem onWx_e (k : List Nat → Prop) (l : List Nat) : onWx k (.one (.slice (l.map wc))) = (WL l ∧ k l) := by
 refine propext ⟨fun ⟨x, h, h1, h2⟩ => ?_, fun h => ⟨l, .inl rfl, h⟩⟩
 rcases h with h | h | h
 ·have := wsA_inj l x h; subst this; exact ⟨h1, h2⟩
 ·simp at h
 ·simp at h
theorem onWx_f (k : List Nat → Prop) (l : List Nat) : onWx k (.one (.full (l.map wc))) = (WL l ∧ k l) := by
 refine propext ⟨fun ⟨x, h, h1, h2⟩ => ?_, fun h => ⟨l, .inr (.inl rfl), h⟩⟩
 rcases h with h | h | h
 ·simp [ws] at h
 ·have := map_wc_inj (x := l) (y := x) (by simpa using h); subst this; exact ⟨h1, h2⟩
 ·simp at h
theorem onWx_0 (k : List Nat → Prop) : onWx k (.one .emp) = k [] := by
 refine propext ⟨fun ⟨x, h, h1, h2⟩ => ?_, fun h => ⟨[], .inr (.inr ⟨rfl, rfl⟩), WL_nil, h⟩⟩
 rcases h with h | h | h
 ·simp [ws] at h
 ·simp at h
 ·obtain ⟨_, rfl⟩ := h; exact h2
attribute [go_sem] onWx_e onWx_f onWx_0
attribute [go_sem ↓] onWx_e onWx_f onWx_0
theorem g_onWx {β : Type} {T : List Nat → (β → Prop) → Prop} (h : ∀ l, GoodT (T l)) {a : AV} : GoodT fun K => onWx (fun l => T l K) a :=
 .of fun K hx => by
  obtain ⟨l, ha, hw, hk⟩ := hx
  rcases ha with ha | ha | ⟨ha, rfl⟩
  ·have : (fun K => onWx (fun l => T l K) a) = fun K => WL l ∧ T l K := funext fun K => by rw [ha]; exact onWx_e _ l
   rw [this]; exact .and fun _ => h l
  ·have : (fun K => onWx (fun l => T l K) a) = fun K => WL l ∧ T l K := funext fun K => by rw [ha]; exact onWx_f _ l
   rw [this]; exact .and fun _ => h l
  ·have : (fun K => onWx (fun l => T l K) a) = T [] := funext fun K => by rw [ha]; exact onWx_0 _
   rw [this]; exact h []
def tr01_G (l : List AV) (K : List (List C) → Prop) : Prop :=
 match l with
 | [a] => onWx (fun l => l.length ≤ 68719476736 ∧ K ((digs (val l)).map wc)) a
 | _ => False
theorem tr01_Ge (a : AV) (K : List (List C) → Prop) : tr01_G [a] K = (onWx (fun l => l.length ≤ 68719476736 ∧ K ((digs (val l)).map wc)) a) := propext Iff.rfl
@[congr] theorem tr01_Gc {K : List (List C) → Prop} {l l' : List AV} (h : l = l') : tr01_G l K = tr01_G l' K := by subst h; rfl
attribute [go_sem] tr01_Ge
attribute [go_sem ↓] tr01_Ge
theorem tr01_good : Good tr01_G := good_of fun as => by
 unfold tr01_G
 split
 ·exact (g_onWx fun _ => (.and fun _ => (.ret _)))
 ·exact .of fun K hk => hk.elim
def cmp01_G (l : List AV) (K : AV → Prop) : Prop :=
 match l with
 | [a, b] => onWs (fun x => onWs (fun y => K (.one (.lit (.int .i64 (ordN (val x) (val y)))))) b) a
 | _ => False
theorem cmp01_Ge (a b : AV) (K : AV → Prop) : cmp01_G [a, b] K = (onWs (fun x => onWs (fun y => K (.one (.lit (.int .i64 (ordN (val x) (val y)))))) b) a) := propext Iff.rfl
@[congr] theorem cmp01_Gc {K : AV → Prop} {l l' : List AV} (h : l = l') : cmp01_G l K = cmp01_G l' K := by subst h; rfl
attribute [go_sem] cmp01_Ge
attribute [go_sem ↓] cmp01_Ge
theorem cmp01_good : Good cmp01_G := good_of fun as => by
 unfold cmp01_G
 split
 ·exact (g_onWs fun _ => (g_onWs fun _ => (.ret _)))
 ·exact .of fun K hk => hk.elim
def gcd01_G (l : List AV) (K : AV → Prop) : Prop :=
 match l with
 | [a, b] => onWs (fun x => onWs (fun y => x.length ≤ 17179869184 ∧ y.length ≤ 17179869184 ∧ K (.one (.slice ((digs (Nat.gcd (val x) (val y))).map wc)))) b) a
 | _ => False
theorem gcd01_Ge (a b : AV) (K : AV → Prop) : gcd01_G [a, b] K = (onWs (fun x => onWs (fun y => x.length ≤ 17179869184 ∧ y.length ≤ 17179869184 ∧ K (.one (.slice ((digs (Nat.gcd (val x) (val y))).map wc)))) b) a) := propext Iff.rfl
@[congr] theorem gcd01_Gc {K : AV → Prop} {l l' : List AV} (h : l = l') : gcd01_G l K = gcd01_G l' K := by subst h; rfl
attribute [go_sem] gcd01_Ge
attribute [go_sem ↓] gcd01_Ge
theorem gcd01_good : Good gcd01_G := good_of fun as => by
 unfold gcd01_G
 split
 ·exact (g_onWs fun _ => (g_onWs fun _ => (.and fun _ => (.and fun _ => (.ret _)))))
 ·exact .of fun K hk => hk.elim
def bits01_G (l : List AV) (K : AV → Prop) : Prop :=
 match l with
 | [a] => onWs (fun x => x.length ≤ 68719476736 ∧ K (.one (.lit (.int .i64 ((if x.length = 0 then 0 else 32 * (x.length - 1) + bln (x.getD (x.length - 1) 0) : Nat) : Int))))) a
 | _ => False
theorem bits01_Ge (a : AV) (K : AV → Prop) : bits01_G [a] K = (onWs (fun x => x.length ≤ 68719476736 ∧ K (.one (.lit (.int .i64 ((if x.length = 0 then 0 else 32 * (x.length - 1) + bln (x.getD (x.length - 1) 0) : Nat) : Int))))) a) := propext Iff.rfl
@[congr] theorem bits01_Gc {K : AV → Prop} {l l' : List AV} (h : l = l') : bits01_G l K = bits01_G l' K := by subst h; rfl
attribute [go_sem] bits01_Ge
attribute [go_sem ↓] bits01_Ge
theorem bits01_good : Good bits01_G := good_of fun as => by
 unfold bits01_G
 split
 ·exact (g_onWs fun _ => (.and fun _ => (.ret _)))
 ·exact .of fun K hk => hk.elim
def zsub_G (l : List AV) (K : AV → Prop) : Prop :=
 match l with
 | [a, b] => onW (fun v => onW (fun w => zs (zv v) ≤ 17179869184 ∧ zs (zv w) ≤ 17179869184 ∧ K (.agg [zb (zcan (zv v - zv w)), zm (zcan (zv v - zv w))])) b) a
 | _ => False
theorem zsub_Ge (a b : AV) (K : AV → Prop) : zsub_G [a, b] K = (onW (fun v => onW (fun w => zs (zv v) ≤ 17179869184 ∧ zs (zv w) ≤ 17179869184 ∧ K (.agg [zb (zcan (zv v - zv w)), zm (zcan (zv v - zv w))])) b) a) := propext Iff.rfl
@[congr] theorem zsub_Gc {K : AV → Prop} {l l' : List AV} (h : l = l') : zsub_G l K = zsub_G l' K := by subst h; rfl
attribute [go_sem] zsub_Ge
attribute [go_sem ↓] zsub_Ge
theorem zsub_good : Good zsub_G := good_of fun as => by
 unfold zsub_G
 split
 ·exact (g_onW fun _ => (g_onW fun _ => (.and fun _ => (.and fun _ => (.ret _)))))
 ·exact .of fun K hk => hk.elim
def zcmp01_G (l : List AV) (K : AV → Prop) : Prop :=
 match l with
 | [a, b] => onW (fun v => onW (fun w => zs (zv v) ≤ 17179869184 ∧ zs (zv w) ≤ 17179869184 ∧ zs (zv v - zv w) ≤ 17179869184 ∧ K (.one (.lit (.int .i64 (ordI (zv v) (zv w)))))) b) a
 | _ => False
theorem zcmp01_Ge (a b : AV) (K : AV → Prop) : zcmp01_G [a, b] K = (onW (fun v => onW (fun w => zs (zv v) ≤ 17179869184 ∧ zs (zv w) ≤ 17179869184 ∧ zs (zv v - zv w) ≤ 17179869184 ∧ K (.one (.lit (.int .i64 (ordI (zv v) (zv w)))))) b) a) := propext Iff.rfl
@[congr] theorem zcmp01_Gc {K : AV → Prop} {l l' : List AV} (h : l = l') : zcmp01_G l K = zcmp01_G l' K := by subst h; rfl
attribute [go_sem] zcmp01_Ge
attribute [go_sem ↓] zcmp01_Ge
theorem zcmp01_good : Good zcmp01_G := good_of fun as => by
 unfold zcmp01_G
 split
 ·exact (g_onW fun _ => (g_onW fun _ => (.and fun _ => (.and fun _ => (.and fun _ => (.ret _))))))
 ·exact .of fun K hk => hk.elim
def zdiv01_G (l : List AV) (K : AV → Prop) : Prop :=
 match l with
 | [a, b] => onW (fun v => onW (fun w => zs (zv v) ≤ 17179869184 ∧ zs (zv w) ≤ 17179869184 ∧ zv w ≠ 0 ∧ K (.tup [.agg [zb (zcan (zv v / zv w)), zm (zcan (zv v / zv w))], .agg [zb (zcan (zv v % zv w)), zm (zcan (zv v % zv w))], .one (.lit (.int .i64 0))])) b) a
 | _ => False
theorem zdiv01_Ge (a b : AV) (K : AV → Prop) : zdiv01_G [a, b] K = (onW (fun v => onW (fun w => zs (zv v) ≤ 17179869184 ∧ zs (zv w) ≤ 17179869184 ∧ zv w ≠ 0 ∧ K (.tup [.agg [zb (zcan (zv v / zv w)), zm (zcan (zv v / zv w))], .agg [zb (zcan (zv v % zv w)), zm (zcan (zv v % zv w))], .one (.lit (.int .i64 0))])) b) a) := propext Iff.rfl
@[congr] theorem zdiv01_Gc {K : AV → Prop} {l l' : List AV} (h : l = l') : zdiv01_G l K = zdiv01_G l' K := by subst h; rfl
attribute [go_sem] zdiv01_Ge
attribute [go_sem ↓] zdiv01_Ge
theorem zdiv01_good : Good zdiv01_G := good_of fun as => by
 unfold zdiv01_G
 split
 ·exact (g_onW fun _ => (g_onW fun _ => (.and fun _ => (.and fun _ => (.and fun _ => (.ret _))))))
 ·exact .of fun K hk => hk.elim
def cut_G (d : Option Nat) (args : List AV) (h : Nat → HB) (K : AV → (Nat → HB) → Prop) : Prop :=
 match args with
 | [.one (.own r ver 1 0 len)] => ∃ l post, len = l.length ∧ h r = ⟨ver, some ⟨(l ++ post).map wc, 1, true⟩⟩ ∧ WL l ∧ len ≤ 68719476736 ∧
   ∀ post', K (.one (.own r ver 1 0 (digs (val l)).length)) (upd h r ⟨ver, some ⟨(digs (val l) ++ post').map wc, 1, true⟩⟩)
 | _ => False
@[congr] theorem cut_Gc {d : Option Nat} {l l' : List AV} {h h' : Nat → HB} {K : AV → (Nat → HB) → Prop} (e1 : l = l') (e2 : h = h') : cut_G d l h K = cut_G d l' h' K := by subst e1; subst e2; rfl
def halve_G (d : Option Nat) (args : List AV) (h : Nat → HB) (K : AV → (Nat → HB) → Prop) : Prop :=
 match args with
 | [.one (.own r ver 1 0 len)] => ∃ l post, len = l.length ∧ h r = ⟨ver, some ⟨(l ++ post).map wc, 1, true⟩⟩ ∧ WL l ∧ len ≤ 68719476736 ∧
   ∀ post', K (.one (.own r ver 1 0 (digs (val l / 2)).length)) (upd h r ⟨ver, some ⟨(digs (val l / 2) ++ post').map wc, 1, true⟩⟩)
 | _ => False
@[congr] theorem halve_Gc {d : Option Nat} {l l' : List AV} {h h' : Nat → HB} {K : AV → (Nat → HB) → Prop} (e1 : l = l') (e2 : h = h') : halve_G d l h K = halve_G d l' h' K := by subst e1; subst e2; rfl
def take_G (d : Option Nat) (args : List AV) (h : Nat → HB) (K : AV → (Nat → HB) → Prop) : Prop :=
 match args with
 | [.one (.own r ver 1 0 len), .one (.own r2 ver2 1 0 len2)] => ∃ l post y posty, r ≠ r2 ∧ len = l.length ∧ h r = ⟨ver, some ⟨(l ++ post).map wc, 1, true⟩⟩ ∧ WL l ∧ len ≤ 68719476736 ∧
   len2 = y.length ∧ h r2 = ⟨ver2, some ⟨(y ++ posty).map wc, 1, true⟩⟩ ∧ WL y ∧ val y ≤ val l ∧
   K (.tup []) (upd (upd h r2 ⟨ver2, some ⟨(y ++ posty).map wc, 1, true⟩⟩) r ⟨ver, some ⟨(dig l.length (val l - val y) ++ post).map wc, 1, true⟩⟩)
 | [.one (.own r ver 1 0 len), b] => onWs (fun y => ∃ l post, len = l.length ∧ h r = ⟨ver, some ⟨(l ++ post).map wc, 1, true⟩⟩ ∧ WL l ∧ len ≤ 68719476736 ∧ val y ≤ val l ∧
   K (.tup []) (upd h r ⟨ver, some ⟨(dig l.length (val l - val y) ++ post).map wc, 1, true⟩⟩)) b
 | _ => False
@[congr] theorem take_Gc {d : Option Nat} {l l' : List AV} {h h' : Nat → HB} {K : AV → (Nat → HB) → Prop} (e1 : l = l') (e2 : h = h') : take_G d l h K = take_G d l' h' K := by subst e1; subst e2; rfl
end Go.Abs
end
section
set_option linter.unusedVariables false
set_option linter.unusedSimpArgs false
set_option maxRecDepth 100000
namespace Go.Abs
open Go.Num
variable {P : Program} {Γ : Nat → Spec}
def ac_linkworkref02_Valid (f0 f1 f2 f3 : Nat) : AC := (.seq (.ops false [.u 1 (.box 3 (.t 0)), .m 2 .fa])
 (.fg [1] (.seq (.seq (.ops false [.u 3 (.fa 1 (.t 1)), .u 4 (.ld none 1 false (.t 3)), .u 5 (.len (.t 4)), .u 6 (.bin .eql (.t 5) (.i 0)), .m 7 (.t 6), .w 8 7 true (.fa 2 (.t 1)), .w 9 7 true (.ld none 1 false (.t 8)), .w 10 7 true (.len (.t 9)), .w 11 7 true (.bin .eql (.t 10) (.i 0)), .u 12 (.pick (.t 7) (.t 11) .fa)])
 (.fg [1, 12] (.cond (.t 12) (.seq (.ops false [.u 13 (.fa 0 (.t 1)), .u 14 (.ld none 1 false (.t 13)), .u 15 (.un .not (.t 14)), .m 2 (.t 15)])
 .ret) .skip)))
 (.fg [1] (.seq (.ops false [.u 16 (.fa 1 (.t 1)), .u 17 (.ld none 1 false (.t 16)), .u 18 (.call f0 [(.t 17)]), .m 19 (.t 18), .w 20 19 true (.fa 2 (.t 1)), .w 21 19 true (.ld none 1 false (.t 20)), .w 22 19 true (.call f0 [(.t 21)]), .u 23 (.pick (.t 19) (.t 22) .fa), .m 24 (.t 23), .w 25 24 true (.fa 1 (.t 1)), .w 26 24 true (.ld none 1 false (.t 25)), .w 27 24 true (.build [.z [(.lit (.bool false))], .x 1 (.t 26)]), .w 28 24 true (.fa 2 (.t 1)), .w 29 24 true (.ld none 1 false (.t 28)), .w 30 24 true (.build [.z [(.lit (.bool false))], .x 1 (.t 29)]), .w 31 24 true (.call f1 [(.t 27), (.t 30)]), .w 32 24 true (.call f2 []), .w 33 24 true (.call f3 [(.t 31), (.t 32)]), .w 34 24 true (.bin .eql (.t 33) (.i 0)), .u 35 (.pick (.t 24) (.t 34) .fa), .m 2 (.t 35)])
 .ret)))))
def ac_linkworkref02_Parts (f0 f1 : Nat) : AC := (.seq (.ops false [.u 1 (.box 3 (.t 0)), .u 2 (.alloc [(.lit (.bool false)), .emp]), .u 3 (.alloc [(.lit (.bool false)), .emp])])
 (.fg [1, 2, 3] (.seq (.seq (.ops false [.u 4 (.ld none 3 true (.t 1)), .u 5 (.call f0 [(.t 4)]), .u 6 (.un .not (.t 5)), .m 7 (.t 6), .w 8 7 false (.fa 1 (.t 1)), .w 9 7 false (.ld none 1 false (.t 8)), .w 10 7 false (.len (.t 9)), .w 11 7 false (.bin .eql (.t 10) (.i 0)), .u 12 (.pick (.t 7) .tr (.t 11))])
 (.fg [1, 2, 3, 12] (.cond (.t 12) (.seq (.ops false [.u 13 (.build [.z [(.lit (.bool false)), .emp]]), .u 14 (.call f1 []), .n (.st none 2 (.t 2) (.t 13)), .n (.st none 2 (.t 3) (.t 14))])
 .ret) .skip)))
 (.fg [1, 2, 3] (.seq (.ops true [.u 15 (.fa 0 (.t 1)), .u 16 (.ld (some 1) 1 false (.t 15)), .u 17 (.fa 1 (.t 1)), .u 18 (.ld (some 1) 1 false (.t 17)), .u 19 (.build [.x 1 (.t 16), .x 1 (.t 18)]), .u 20 (.fa 2 (.t 1)), .u 21 (.ld (some 1) 1 false (.t 20)), .u 22 (.build [.z [(.lit (.bool false))], .x 1 (.t 21)]), .n (.st (some 2) 2 (.t 2) (.t 19)), .n (.st (some 3) 2 (.t 3) (.t 22))])
 .ret)))))
def ac_linkworkref02_form (f0 f1 f2 f3 : Nat) : AC := (.seq (.ops false [.u 2 (.box 2 (.t 0)), .u 3 (.box 2 (.t 1)), .u 4 (.alloc [(.lit (.bool false)), .emp, .emp])])
 (.fg [2, 3, 4] (.seq (.seq (.ops false [.u 12 (.ld none 2 true (.t 2)), .u 13 (.call f0 [(.t 12)]), .u 14 (.bin .eql (.t 13) (.i 0))])
 (.fg [2, 3, 4, 14] (.cond (.t 14) (.seq (.ops false [.u 15 (.build [.z [(.lit (.bool false)), .emp, .emp]]), .n (.st none 3 (.t 4) (.t 15))])
 .ret) .skip)))
 (.fg [2, 3, 4] (.seq (.seq (.ops false [.u 16 (.ld none 2 true (.t 3)), .u 17 (.call f0 [(.t 16)]), .u 18 (.bin .lss (.t 17) (.i 0))])
 (.fg [2, 3, 4, 18] (.cond (.t 18) (.ops true [.u 19 (.ld none 2 true (.t 2)), .u 20 (.call f1 [(.t 19)]), .u 21 (.ld none 2 true (.t 3)), .u 22 (.call f1 [(.t 21)]), .n (.st none 2 (.t 2) (.t 20)), .n (.st none 2 (.t 3) (.t 22))]) .skip)))
 (.fg [2, 3, 4] (.seq (.ops false [.u 23 (.ld none 2 true (.t 2)), .u 24 (.ld none 2 true (.t 3)), .u 25 (.call f2 [(.t 23), (.t 24)]), .u 5 (.alloc [(.lit (.bool false)), .emp]), .n (.st none 2 (.t 5) (.t 25))])
 (.fg [2, 3, 4, 5] (.seq (.ops false [.u 27 (.ld none 2 true (.t 2)), .u 28 (.ld none 2 true (.t 5)), .u 29 (.call f3 [(.t 27), (.t 28)]), .m 26 (.t 29), .u 30 (.ext 0 (.t 26)), .u 31 (.ext 1 (.t 26)), .u 32 (.ext 2 (.t 26)), .u 6 (.alloc [(.lit (.bool false)), .emp]), .u 7 (.alloc [(.lit (.bool false)), .emp]), .n (.st none 2 (.t 6) (.t 30)), .n (.st none 2 (.t 7) (.t 31)), .m 8 (.t 32)])
 (.fg [3, 4, 5, 6] (.seq (.ops false [.u 34 (.ld none 2 true (.t 3)), .u 35 (.ld none 2 true (.t 5)), .u 36 (.call f3 [(.t 34), (.t 35)]), .m 33 (.t 36), .u 37 (.ext 0 (.t 33)), .u 38 (.ext 1 (.t 33)), .u 39 (.ext 2 (.t 33)), .u 9 (.alloc [(.lit (.bool false)), .emp]), .u 10 (.alloc [(.lit (.bool false)), .emp]), .n (.st none 2 (.t 9) (.t 37)), .n (.st none 2 (.t 10) (.t 38)), .m 11 (.t 39)])
 (.fg [4, 6, 9] (.seq (.ops false [.u 40 (.fa 0 (.t 6)), .u 41 (.ld none 1 false (.t 40)), .u 42 (.fa 1 (.t 6)), .u 43 (.ld none 1 false (.t 42)), .u 44 (.fa 1 (.t 9)), .u 45 (.ld none 1 false (.t 44)), .u 46 (.build [.x 1 (.t 41), .x 1 (.t 43), .x 1 (.t 45)]), .n (.st none 3 (.t 4) (.t 46))])
 .ret)))))))))))))
def ac_linkworkref02_Cmp (f0 f1 : Nat) : AC := (.seq (.ops false [.u 2 (.box 3 (.t 0)), .u 3 (.box 3 (.t 1)), .m 4 (.i 0)])
 (.fg [2, 3] (.seq (.ops false [.u 5 (.ld none 3 true (.t 2)), .u 6 (.ld none 3 true (.t 3)), .u 7 (.call f0 [(.t 5), (.t 6)]), .u 8 (.call f1 [(.t 7)]), .m 4 (.t 8)])
 .ret)))
def ac_linkworkref02_From (f0 f1 : Nat) : AC := (.seq (.ops false [.u 2 (.box 2 (.t 0)), .u 3 (.box 2 (.t 1)), .u 4 (.alloc [(.lit (.bool false)), .emp, .emp]), .m 5 (.i 0)])
 (.fg [2, 3, 4] (.seq (.seq (.ops false [.u 6 (.ld none 2 true (.t 3)), .u 7 (.call f0 [(.t 6)]), .u 8 (.bin .eql (.t 7) (.i 0))])
 (.fg [2, 3, 4, 8] (.cond (.t 8) (.seq (.ops false [.u 9 (.build [.z [(.lit (.bool false)), .emp, .emp]]), .n (.st none 3 (.t 4) (.t 9)), .m 5 (.i 8)])
 .ret) .skip)))
 (.fg [2, 3, 4] (.seq (.ops false [.u 10 (.ld none 2 true (.t 2)), .u 11 (.ld none 2 true (.t 3)), .u 12 (.call f1 [(.t 10), (.t 11)]), .n (.st none 3 (.t 4) (.t 12)), .m 5 (.i 0)])
 .ret)))))
def ac_linkworkref02_plain : AC := (.seq (.ops false [.m 2 .fa])
 (.fg [0] (.seq (.ops false [.m 3 (.t 0), .u 4 (.len (.t 3)), .u 5 (.bin .gtr (.t 4) (.i 0)), .m 6 (.t 5), .w 7 6 true (.mv (.t 0)), .w 8 6 true (.mv (.t 0)), .w 9 6 true (.len (.t 8)), .w 10 6 true (.bin .sub (.t 9) (.i 1)), .w 11 6 true (.idx 1 (.t 7) (.t 10)), .w 12 6 true (.ld none 1 false (.t 11)), .w 13 6 true (.bin .neq (.t 12) (.c (.one (.lit (.int .u32 0))))), .u 14 (.pick (.t 6) (.t 13) .fa), .m 2 (.t 14)])
 .ret)))
theorem form_cells2 {n d N D : Int} {g : Nat} (hd : d ≠ 0) (hn : n ≠ 0) (hN : N = d.sign * n) (hD : 0 ≤ D) (e2 : D.natAbs = d.natAbs) (eg : g = Int.gcd n d) :
  AV.agg [zb (zcan (N / (g : Int))), zm (zcan (N / (g : Int))), zm (zcan (D / (g : Int)))] = .agg [cb (rcan (Rat.divInt n d)), cn (rcan (Rat.divInt n d)), cd (rcan (Rat.divInt n d))] := by
 obtain ⟨D', rfl⟩ := Int.eq_ofNat_of_zero_le hD
 simp only [Int.natAbs_natCast] at e2
 subst e2 eg hN
 have hg : 0 < Int.gcd n d := Int.gcd_pos_of_ne_zero_left _ hn
 rw [cb_eq, cn_eq, cd_eq, rcan_divInt hd hn, zm_eq, zm_eq, zb_eq]
 have hdv : ((Int.gcd n d : Nat) : Int) ∣ d.sign * n := Int.dvd_mul_of_dvd_right (Int.gcd_dvd_left _ _)
 obtain ⟨k, hk⟩ := hdv
 have hs : (d.sign * n).natAbs = n.natAbs := by
  rw [Int.natAbs_mul, Int.natAbs_sign_of_ne_zero hd, Nat.one_mul]
 have e : (d.sign * n / ((Int.gcd n d : Nat) : Int)) = k := by rw [hk, Int.mul_ediv_cancel_left _ (by omega)]
 rw [e, ← Int.natCast_ediv]
 simp only [zcan, Int.natAbs_natCast]
 have hk2 : k.natAbs = n.natAbs / Int.gcd n d := by
  rw [← hs, hk, Int.natAbs_mul]
  simp only [Int.natAbs_natCast]
  rw [Nat.mul_div_cancel_left _ hg]
 have : decide (k < 0) = decide (d.sign * n < 0) := by
  rw [decide_eq_decide, hk]
  constructor
  ·intro h; exact Int.mul_neg_of_pos_of_neg (by omega) h
  ·intro h
   rcases Int.lt_or_le k 0 with h' | h'
   ·exact h'
   ·have := Int.mul_nonneg (show (0 : Int) ≤ ((Int.gcd n d : Nat) : Int) by omega) h'; omega
 rw [hk2, this]
theorem rplain02_sound (hΓ : Holds P Γ) {f : Nat} (hc : check P f = some (15, ac_linkworkref02_plain.strip, [.tmp 2])) : Sound P f (.dat true rplain_G) := by
 refine sound_dat hc rplain_good hΓ (fun args K hcl hfi hG => ?_)
 match args, hG with
 | [a], hG =>
  obtain ⟨l, rfl, hl, hK⟩ := hG
  refine ⟨by simp, ?_⟩
  simp only [go_sem, ac_linkworkref02_plain]
  intro _
  refine ⟨fun h _ => ⟨by omega, by omega, by omega, ?_⟩, fun h => ?_⟩
  ·have hne : l ≠ [] := fun e => by rw [e] at h; simp at h
   rw [show ((l.length : Int) - 1).toNat = l.length - 1 by omega]
   have e : (!decide (l.getD (l.length - 1) 0 = 0)) = decide (l ≠ [] ∧ NZ l) := by
    rw [← decide_not, decide_eq_decide]
    unfold NZ
    rw [List.getLast?_eq_getElem?, List.getElem?_eq_getElem (by omega), List.getD_eq_getElem?_getD, List.getElem?_eq_getElem (by omega)]
    simp [hne]
   rw [e]; exact hK
  ·have hne : l = [] := List.eq_nil_of_length_eq_zero (by omega)
   rw [decide_eq_false (fun e => e.1 hne)] at hK; exact hK
theorem rvalid02_sound (hΓ : Holds P Γ) {f fv fg fo fc : Nat} (hv : Γ fv = .dat true rplain_G) (hg : Γ fg = .dat false zgcd_G) (ho : Γ fo = .dat false rone_G) (hc' : Γ fc = .dat true zcmp01_G) (hc : check P f = some (36, (ac_linkworkref02_Valid fv fg fo fc).strip, [.tmp 2])) : Sound P f (.dat true rvalid_G) := by
 refine sound_dat hc rvalid_good hΓ (fun args K hcl hfi hG => ?_)
 match args, hG with
 | [a], hG =>
  obtain ⟨x, rfl, hx, hl, hK⟩ := hG
  refine ⟨by simp, ?_⟩
  simp only [go_sem, ac_linkworkref02_Valid, hv, hg, ho, hc', cb_eq, cn_eq, cd_eq]
  have hl1 : x.2.1.length ≤ 4294967296 := Nat.le_trans (Nat.le_max_left _ _) hl
  have hl2 : x.2.2.length ≤ 4294967296 := Nat.le_trans (Nat.le_max_right _ _) hl
  have e0 : ∀ {l : List Nat}, ¬ l.length = 0 → l ≠ [] := fun h e => h (by rw [e]; rfl)
  have key : ¬ (x.2.1 = [] ∧ x.2.2 = []) → WL x.2.1 ∧ (x.2.1 ≠ [] ∧ NZ x.2.1 → WL x.2.2 ∧ (x.2.2 ≠ [] ∧ NZ x.2.2 → WL x.2.1 ∧ WL x.2.2 ∧ zs (zv (false, x.2.1)) ≤ 17179869184 ∧ zs (zv (false, x.2.2)) ≤ 17179869184 ∧
    zs (((zv (false, x.2.1)).gcd (zv (false, x.2.2)) : Nat) : Int) ≤ 17179869184 ∧ zs 1 ≤ 17179869184 ∧ zs ((((zv (false, x.2.1)).gcd (zv (false, x.2.2)) : Nat) : Int) - 1) ≤ 17179869184 ∧
    K (AV.one (C.lit (Value.bool (decide (ordI (((zv (false, x.2.1)).gcd (zv (false, x.2.2)) : Nat) : Int) 1 = 0)))))) ∧ (¬ (x.2.2 ≠ [] ∧ NZ x.2.2) → K (AV.one (C.lit (Value.bool false))))) ∧ (¬ (x.2.1 ≠ [] ∧ NZ x.2.1) → K (AV.one (C.lit (Value.bool false)))) := by
   intro hnd
   unfold vldR at hK
   rw [if_neg hnd] at hK
   refine ⟨hx.1, fun h1 => ⟨hx.2, fun h2 => ?_, fun h2 => ?_⟩, fun h1 => ?_⟩
   ·have s2 : zs (zv (false, x.2.2)) ≤ 4294967296 := by rw [zv_f h2.2, zs_nat, digs_val hx.2 h2.2]; exact hl2
    have hne : zv (false, x.2.2) ≠ 0 := by
     rw [zv_f h2.2]; have := val_pos_of_NZ h2.2 h2.1; omega
    have s3 := zs_gcd (v := zv (false, x.2.1)) hne s2
    have s4 : zs 1 ≤ 2 := zs_of (by decide)
    have s5 := zs_add ((((zv (false, x.2.1)).gcd (zv (false, x.2.2)) : Nat) : Int)) (-1)
    rw [zs_neg, ← Int.sub_eq_add_neg] at s5
    refine ⟨hx.1, hx.2, ?_, by omega, by omega, by omega, by omega, ?_⟩
    ·rw [zv_f h1.2, zs_nat, digs_val hx.1 h1.2]; omega
    ·rw [zv_f h1.2, zv_f h2.2]
     have e : decide (ordI (((((val x.2.1 : Nat) : Int)).gcd ((val x.2.2 : Nat) : Int) : Nat) : Int) 1 = 0) = decide (x.2.1 ≠ [] ∧ x.2.2 ≠ [] ∧ NZ x.2.1 ∧ NZ x.2.2 ∧ Nat.gcd (val x.2.1) (val x.2.2) = 1) := by
      rw [decide_eq_decide, ordI_zero, Int.gcd_natCast_natCast]
      constructor
      ·intro h; exact ⟨h1.1, h2.1, h1.2, h2.2, by omega⟩
      ·rintro ⟨_, _, _, _, h⟩; omega
     rw [e]; exact hK
   ·rw [decide_eq_false (fun h => h2 ⟨h.2.1, h.2.2.2.1⟩)] at hK; exact hK
   ·rw [decide_eq_false (fun h => h1 ⟨h.1, h.2.2.1⟩)] at hK; exact hK
  refine fun _ => ⟨fun hn _ => ⟨fun hd => ?_, fun hd => key (fun h => e0 hd h.2)⟩, fun hn => key (fun h => e0 hn h.1)⟩
  unfold vldR at hK
  rw [if_pos ⟨List.eq_nil_of_length_eq_zero hn, List.eq_nil_of_length_eq_zero hd⟩] at hK; exact hK
theorem rparts02_sound (hΓ : Holds P Γ) {f fv fo : Nat} (hv : Γ fv = .dat true rvalid_G) (ho : Γ fo = .dat false rone_G) (hc : check P f = some (23, (ac_linkworkref02_Parts fv fo).strip, [.cell 2 2 true, .cell 3 2 true])) : Sound P f (.dat false rparts_G) := by
 refine sound_dat hc rparts_good hΓ (fun args K hcl hfi hG => ?_)
 match args, hG with
 | [a], hG =>
  obtain ⟨x, rfl, hx, hl, hK⟩ := hG
  refine ⟨by simp, ?_⟩
  simp only [go_sem, ac_linkworkref02_Parts, hv, ho, cb_eq, cn_eq, cd_eq]
  have hl1 : x.2.1.length ≤ 4294967296 := Nat.le_trans (Nat.le_max_left _ _) hl
  have hl2 : x.2.2.length ≤ 4294967296 := Nat.le_trans (Nat.le_max_right _ _) hl
  have e0 : (zcan 0) = (false, []) := by simp [zcan, digs_zero]
  have h0 : rv x = 0 → K (AV.tup [AV.agg [C.lit (Value.bool false), C.slice []], AV.agg [zb (zcan 1), zm (zcan 1)]]) := by
   intro h
   rw [h] at hK
   have e1 : ((0 : Rat).num) = 0 := rfl
   have e2 : ((0 : Rat).den : Int) = 1 := rfl
   rw [e1, e2, e0] at hK; exact hK
  refine ⟨hx, hl, fun hv _ => ⟨fun hn => h0 ?_, fun hn => ?_⟩, fun hv => h0 (rv_nvld hv)⟩
  ·unfold rv; rw [if_pos hv, List.eq_nil_of_length_eq_zero hn]; simp [val, sg]
  ·obtain ⟨p1, p2, p3, p4, p5, p6⟩ := rv_parts hx hv (fun e => hn (by rw [e]; rfl))
   have hn0 := val_pos_of_NZ p4 (fun e => hn (by rw [e]; rfl))
   rw [p1, p2] at hK
   have e1 : zcan (sg x.1 (val x.2.1)) = (x.1, x.2.1) := by
    rw [← can_sg, digs_val hx.1 p4]
    have : decide (0 < x.2.1.length) = true := by simp only [decide_eq_true_eq]; omega
    rw [this, Bool.and_true]
   have e2 : zcan ((val x.2.2 : Nat) : Int) = (false, x.2.2) := by
    have := can_sg false (val x.2.2)
    rw [digs_val hx.2 p5, Bool.false_and] at this
    exact this.symm
   rw [e1, e2] at hK; exact hK
theorem rform02_sound (hΓ : Holds P Γ) {f fs fn fg fd : Nat} (hs : Γ fs = .dat true zsign_G) (hn : Γ fn = .dat false zneg_G) (hg : Γ fg = .dat false zgcd_G) (hd : Γ fd = .dat false zdiv01_G) (hc : check P f = some (47, (ac_linkworkref02_form fs fn fg fd).strip, [.cell 4 3 true])) : Sound P f (.dat false rform_G) := by
 refine sound_dat hc rform_good hΓ (fun args K hcl hfi hG => ?_)
 match args, hG with
 | [a, b], hG =>
  obtain ⟨v, rfl, hv, w, rfl, hw, hz, hz', h0, hK⟩ := hG
  refine ⟨by simp, ?_⟩
  simp only [go_sem, ac_linkworkref02_form, hs, hn, hg, hd, hv, hw]
  generalize zv v = n at *
  generalize zv w = d at *
  have hd0 := h0
  refine ⟨fun h => ?_, fun h => ?_⟩
  ·rw [Int.sign_eq_zero_iff_zero.1 h, Rat.zero_divInt, rcan_zero] at hK; exact hK
  have hn0 : n ≠ 0 := fun e => h (by rw [e]; rfl)
  have hg0 : ((Int.gcd n d : Nat) : Int) ≠ 0 := by
   have := Int.gcd_pos_of_ne_zero_left d hn0; omega
  have hgz : zs ((Int.gcd n d : Nat) : Int) ≤ 17179869184 := zs_gcd hd0 hz'
  simp only [Int.gcd_neg, Int.neg_gcd, zs_neg, sign_lt]
  refine ⟨fun hdn => ⟨by omega, by omega, hz, hz', hz, hgz, hg0, hz', hgz, hg0, ?_⟩, fun hdn => ⟨hz, hz', hz, hgz, hg0, hz', hgz, hg0, ?_⟩⟩
  ·rw [form_cells2 hd0 hn0 (by rw [Int.sign_eq_neg_one_of_neg hdn]; omega) (by omega) (by omega) rfl]; exact hK
  ·rw [form_cells2 hd0 hn0 (by rw [Int.sign_eq_one_of_pos (by omega)]; omega) (by omega) (by omega) rfl]; exact hK
theorem rcmp02_sound (hΓ : Holds P Γ) {f fs fg : Nat} (hs : Γ fs = .dat false rsub_G) (hg : Γ fg = .dat true rsign_G) (hc : check P f = some (9, (ac_linkworkref02_Cmp fs fg).strip, [.tmp 4])) : Sound P f (.dat true rcmp02_G) := by
 refine sound_dat hc rcmp02_good hΓ (fun args K hcl hfi hG => ?_)
 match args, hG with
 | [a, b], hG =>
  obtain ⟨x, rfl, hx, y, rfl, hy, hl, hl', hK⟩ := hG
  refine ⟨by simp, ?_⟩
  simp only [go_sem, ac_linkworkref02_Cmp, hs, hg, hx, hy]
  have hs1 := rz_sub (rv x) (rv y)
  have h1 := rz_rv hx
  have h2 := rz_rv hy
  have e : ordQ (rv x - rv y) 0 = ordQ (rv x) (rv y) := by
   unfold ordQ
   have e1 : (rv x - rv y < 0) = (rv x < rv y) := propext ⟨fun h => by have := (Rat.sub_lt_iff (a := rv x) (c := rv y) (b := 0)).1 h; rwa [Rat.zero_add] at this, fun h => (Rat.sub_lt_iff (a := rv x) (c := rv y) (b := 0)).2 (by rwa [Rat.zero_add])⟩
   have e2 : (0 < rv x - rv y) = (rv y < rv x) := propext (Rat.lt_iff_sub_pos _ _).symm
   simp only [e1, e2]
  rw [e]
  exact ⟨by omega, by omega, by omega, hK⟩
end Go.Abs
end
section
set_option linter.unusedVariables false
set_option linter.unusedSimpArgs false
set_option maxRecDepth 100000
namespace Go.Num
open Go.Abs
theorem rz_0 : rz 0 = 0 := by unfold rz; rw [rcan_zero]; rfl
theorem rz_1 : rz 1 ≤ 2 := by
 have := rz_int 1
 have h1 : zs 1 ≤ 2 := zs_of (by decide)
 have e : ((1 : Int) : Rat) = 1 := rfl
 rw [e] at this
 omega
theorem rz_mul (p q : Rat) : rz (p * q) ≤ rz p + rz q + 2 := by
 rw [← mul_parts]
 have n1 := rz_num p
 have n2 := rz_num q
 have d1 := rz_den p
 have d2 := rz_den q
 have m1 := zs_mul p.num q.num
 have m2 := zs_mul (p.den : Int) (q.den : Int)
 refine rz_divInt (by exact Int.mul_ne_zero (den_ne _) (den_ne _)) (by omega) (by omega)
theorem div_parts {p q : Rat} (hq : q ≠ 0) : Rat.divInt (p.num * q.den) (p.den * q.num) = p / q := by
 have hn : q.num ≠ 0 := num_ne hq
 have e1 : (p.num : Rat) / (p.den : Rat) = p := by have := Rat.num_divInt_den p; rw [Rat.divInt_eq_div] at this; exact this
 have e2 : (q.num : Rat) / (q.den : Rat) = q := by have := Rat.num_divInt_den q; rw [Rat.divInt_eq_div] at this; exact this
 have d1 : (p.den : Rat) ≠ 0 := by exact_mod_cast p.den_nz
 have d2 : (q.den : Rat) ≠ 0 := by exact_mod_cast q.den_nz
 have d3 : (q.num : Rat) ≠ 0 := by exact_mod_cast hn
 rw [Rat.divInt_eq_div]
 simp only [Rat.intCast_mul, Rat.intCast_natCast]
 have f1 : (p.num : Rat) = p * (p.den : Rat) := by grind
 have f2 : (q.num : Rat) = q * (q.den : Rat) := by grind
 rw [f1, f2]
 grind
theorem rz_div (p q : Rat) : rz (p / q) ≤ rz p + rz q + 2 := by
 by_cases hq : q = 0
 ·subst hq
  rw [Rat.div_def, Rat.inv_zero, Rat.mul_zero, rz_0]; omega
 ·rw [← div_parts hq]
  have n1 := rz_num p
  have n2 := rz_num q
  have d1 := rz_den p
  have d2 := rz_den q
  have m1 := zs_mul p.num (q.den : Int)
  have m2 := zs_mul (p.den : Int) q.num
  refine rz_divInt (by exact Int.mul_ne_zero (den_ne _) (num_ne hq)) (by omega) (by omega)
theorem div_eq (p q : Rat) : Rat.divInt (p.num * q.den) (p.den * q.num) = p / q := by
 by_cases hq : q = 0
 ·subst hq
  rw [show (0 : Rat).num = 0 from rfl, Int.mul_zero, Rat.divInt_zero, Rat.div_def, Rat.inv_zero, Rat.mul_zero]
 ·exact div_parts hq
end Go.Num
namespace Go.Abs
open Go.Num
variable {P : Program} {Γ : Nat → Spec}
def rQ (q : Rat) : AV := .agg [cb (rcan q), cn (rcan q), cd (rcan q)]
theorem rQ_eq (q : Rat) : rQ q = .agg [cb (rcan q), cn (rcan q), cd (rcan q)] := eq_of_heq (HEq.refl _)
attribute [go_sem] rQ_eq
attribute [go_sem ↓] rQ_eq
def rmul_G (l : List AV) (K : AV → Prop) : Prop :=
 match l with
 | [a, b] => onR (fun x => onR (fun y => rl x ≤ 4294967296 ∧ rl y ≤ 4294967296 ∧ K (rQ (rv x * rv y))) b) a
 | _ => False
theorem rmul_Ge (a b : AV) (K : AV → Prop) : rmul_G [a, b] K = (onR (fun x => onR (fun y => rl x ≤ 4294967296 ∧ rl y ≤ 4294967296 ∧ K (rQ (rv x * rv y))) b) a) := propext Iff.rfl
@[congr] theorem rmul_Gc {K : AV → Prop} {l l' : List AV} (h : l = l') : rmul_G l K = rmul_G l' K := by subst h; rfl
attribute [go_sem] rmul_Ge
attribute [go_sem ↓] rmul_Ge
theorem rmul_good : Good rmul_G := good_of fun as => by
 unfold rmul_G
 split
 ·exact (g_onR fun _ => (g_onR fun _ => (.and fun _ => (.and fun _ => (.ret _)))))
 ·exact .of fun K hk => hk.elim
def rfromE_G (tE : Nat) (l : List AV) (K : AV → Prop) : Prop :=
 match l with
 | [a, b] => onW (fun v => onW (fun w => zs (zv v) ≤ 17179869184 ∧ zs (zv w) ≤ 17179869184 ∧ K (.tup [rQ (Rat.divInt (zv v) (zv w)), errV tE (if zv w = 0 then 8 else 0)])) b) a
 | _ => False
theorem rfromE_Ge (tE : Nat) (a b : AV) (K : AV → Prop) : rfromE_G tE [a, b] K = (onW (fun v => onW (fun w => zs (zv v) ≤ 17179869184 ∧ zs (zv w) ≤ 17179869184 ∧ K (.tup [rQ (Rat.divInt (zv v) (zv w)), errV tE (if zv w = 0 then 8 else 0)])) b) a) := propext Iff.rfl
@[congr] theorem rfromE_Gc (tE : Nat) {K : AV → Prop} {l l' : List AV} (h : l = l') : rfromE_G tE l K = rfromE_G tE l' K := by subst h; rfl
attribute [go_sem] rfromE_Ge
attribute [go_sem ↓] rfromE_Ge
theorem rfromE_good (tE : Nat) : Good (rfromE_G tE) := good_of fun as => by
 unfold rfromE_G
 split
 ·exact (g_onW fun _ => (g_onW fun _ => (.and fun _ => (.and fun _ => (.ret _)))))
 ·exact .of fun K hk => hk.elim
def rdivE_G (tE : Nat) (l : List AV) (K : AV → Prop) : Prop :=
 match l with
 | [a, b] => onR (fun x => onR (fun y => rl x ≤ 4294967296 ∧ rl y ≤ 4294967296 ∧ K (.tup [rQ (rv x / rv y), errV tE (if rv y = 0 then 8 else 0)])) b) a
 | _ => False
theorem rdivE_Ge (tE : Nat) (a b : AV) (K : AV → Prop) : rdivE_G tE [a, b] K = (onR (fun x => onR (fun y => rl x ≤ 4294967296 ∧ rl y ≤ 4294967296 ∧ K (.tup [rQ (rv x / rv y), errV tE (if rv y = 0 then 8 else 0)])) b) a) := propext Iff.rfl
@[congr] theorem rdivE_Gc (tE : Nat) {K : AV → Prop} {l l' : List AV} (h : l = l') : rdivE_G tE l K = rdivE_G tE l' K := by subst h; rfl
attribute [go_sem] rdivE_Ge
attribute [go_sem ↓] rdivE_Ge
theorem rdivE_good (tE : Nat) : Good (rdivE_G tE) := good_of fun as => by
 unfold rdivE_G
 split
 ·exact (g_onR fun _ => (g_onR fun _ => (.and fun _ => (.and fun _ => (.ret _)))))
 ·exact .of fun K hk => hk.elim
def rfromN_G (l : List AV) (K : AV → Prop) : Prop :=
 match l with
 | [a, b] => onW (fun v => onW (fun w => zs (zv v) ≤ 17179869184 ∧ zs (zv w) ≤ 17179869184 ∧ K (.tup [rQ (Rat.divInt (zv v) (zv w)), .one (.lit (.int .i64 (if zv w = 0 then 8 else 0)))])) b) a
 | _ => False
theorem rfromN_Ge (a b : AV) (K : AV → Prop) : rfromN_G [a, b] K = (onW (fun v => onW (fun w => zs (zv v) ≤ 17179869184 ∧ zs (zv w) ≤ 17179869184 ∧ K (.tup [rQ (Rat.divInt (zv v) (zv w)), .one (.lit (.int .i64 (if zv w = 0 then 8 else 0)))])) b) a) := propext Iff.rfl
@[congr] theorem rfromN_Gc {K : AV → Prop} {l l' : List AV} (h : l = l') : rfromN_G l K = rfromN_G l' K := by subst h; rfl
attribute [go_sem] rfromN_Ge
attribute [go_sem ↓] rfromN_Ge
theorem rfromN_good : Good rfromN_G := good_of fun as => by
 unfold rfromN_G
 split
 ·exact (g_onW fun _ => (g_onW fun _ => (.and fun _ => (.and fun _ => (.ret _)))))
 ·exact .of fun K hk => hk.elim
def rdivN_G (l : List AV) (K : AV → Prop) : Prop :=
 match l with
 | [a, b] => onR (fun x => onR (fun y => rl x ≤ 1073741824 ∧ rl y ≤ 1073741824 ∧ K (.tup [rQ (rv x / rv y), .one (.lit (.int .i64 (if rv y = 0 then 8 else 0)))])) b) a
 | _ => False
theorem rdivN_Ge (a b : AV) (K : AV → Prop) : rdivN_G [a, b] K = (onR (fun x => onR (fun y => rl x ≤ 1073741824 ∧ rl y ≤ 1073741824 ∧ K (.tup [rQ (rv x / rv y), .one (.lit (.int .i64 (if rv y = 0 then 8 else 0)))])) b) a) := propext Iff.rfl
@[congr] theorem rdivN_Gc {K : AV → Prop} {l l' : List AV} (h : l = l') : rdivN_G l K = rdivN_G l' K := by subst h; rfl
attribute [go_sem] rdivN_Ge
attribute [go_sem ↓] rdivN_Ge
theorem rdivN_good : Good rdivN_G := good_of fun as => by
 unfold rdivN_G
 split
 ·exact (g_onR fun _ => (g_onR fun _ => (.and fun _ => (.and fun _ => (.ret _)))))
 ·exact .of fun K hk => hk.elim
def ac_fraction_Mul (f0 f1 f2 : Nat) : AC := (.seq (.ops false [.u 2 (.box 3 (.t 0)), .u 3 (.box 3 (.t 1)), .u 4 (.alloc [(.lit (.bool false)), .emp, .emp])])
 (.fg [2, 3, 4] (.seq (.ops false [.u 10 (.ld none 3 true (.t 2)), .u 11 (.call f0 [(.t 10)]), .m 9 (.t 11), .u 12 (.ext 0 (.t 9)), .u 13 (.ext 1 (.t 9)), .u 5 (.alloc [(.lit (.bool false)), .emp]), .u 6 (.alloc [(.lit (.bool false)), .emp]), .n (.st none 2 (.t 5) (.t 12)), .n (.st none 2 (.t 6) (.t 13))])
 (.fg [3, 4, 5, 6] (.seq (.ops false [.u 15 (.ld none 3 true (.t 3)), .u 16 (.call f0 [(.t 15)]), .m 14 (.t 16), .u 17 (.ext 0 (.t 14)), .u 18 (.ext 1 (.t 14)), .u 7 (.alloc [(.lit (.bool false)), .emp]), .u 8 (.alloc [(.lit (.bool false)), .emp]), .n (.st none 2 (.t 7) (.t 17)), .n (.st none 2 (.t 8) (.t 18))])
 (.fg [4, 5, 6, 7, 8] (.seq (.ops true [.u 19 (.ld none 2 true (.t 5)), .u 20 (.ld none 2 true (.t 7)), .u 21 (.call f1 [(.t 19), (.t 20)]), .u 22 (.ld none 2 true (.t 6)), .u 23 (.ld none 2 true (.t 8)), .u 24 (.call f1 [(.t 22), (.t 23)]), .u 25 (.call f2 [(.t 21), (.t 24)]), .n (.st none 3 (.t 4) (.t 25))])
 .ret)))))))
def ac_fraction_Div (f0 f1 f2 : Nat) : AC := (.seq (.ops false [.u 2 (.box 3 (.t 0)), .u 3 (.box 3 (.t 1)), .u 4 (.alloc [(.lit (.bool false)), .emp, .emp]), .m 5 (.c (.one (.lit .nilIface)))])
 (.fg [2, 3, 4] (.seq (.ops false [.u 11 (.ld none 3 true (.t 2)), .u 12 (.call f0 [(.t 11)]), .m 10 (.t 12), .u 13 (.ext 0 (.t 10)), .u 14 (.ext 1 (.t 10)), .u 6 (.alloc [(.lit (.bool false)), .emp]), .u 7 (.alloc [(.lit (.bool false)), .emp]), .n (.st none 2 (.t 6) (.t 13)), .n (.st none 2 (.t 7) (.t 14))])
 (.fg [3, 4, 6, 7] (.seq (.ops false [.u 16 (.ld none 3 true (.t 3)), .u 17 (.call f0 [(.t 16)]), .m 15 (.t 17), .u 18 (.ext 0 (.t 15)), .u 19 (.ext 1 (.t 15)), .u 8 (.alloc [(.lit (.bool false)), .emp]), .u 9 (.alloc [(.lit (.bool false)), .emp]), .n (.st none 2 (.t 8) (.t 18)), .n (.st none 2 (.t 9) (.t 19))])
 (.fg [4, 6, 7, 8, 9] (.seq (.ops true [.u 20 (.ld none 2 true (.t 6)), .u 21 (.ld none 2 true (.t 9)), .u 22 (.call f1 [(.t 20), (.t 21)]), .u 23 (.ld none 2 true (.t 7)), .u 24 (.ld none 2 true (.t 8)), .u 25 (.call f1 [(.t 23), (.t 24)]), .u 26 (.call f2 [(.t 22), (.t 25)]), .u 27 (.ext 0 (.t 26)), .u 28 (.ext 1 (.t 26)), .n (.st none 3 (.t 4) (.t 27)), .m 5 (.t 28)])
 .ret)))))))
def ac_linkworkref02_Div (f0 f1 f2 : Nat) : AC := (.seq (.ops false [.u 2 (.box 3 (.t 0)), .u 3 (.box 3 (.t 1)), .u 4 (.alloc [(.lit (.bool false)), .emp, .emp]), .m 5 (.i 0)])
 (.fg [2, 3, 4] (.seq (.ops false [.u 11 (.ld none 3 true (.t 2)), .u 12 (.call f0 [(.t 11)]), .m 10 (.t 12), .u 13 (.ext 0 (.t 10)), .u 14 (.ext 1 (.t 10)), .u 6 (.alloc [(.lit (.bool false)), .emp]), .u 7 (.alloc [(.lit (.bool false)), .emp]), .n (.st none 2 (.t 6) (.t 13)), .n (.st none 2 (.t 7) (.t 14))])
 (.fg [3, 4, 6, 7] (.seq (.ops false [.u 16 (.ld none 3 true (.t 3)), .u 17 (.call f0 [(.t 16)]), .m 15 (.t 17), .u 18 (.ext 0 (.t 15)), .u 19 (.ext 1 (.t 15)), .u 8 (.alloc [(.lit (.bool false)), .emp]), .u 9 (.alloc [(.lit (.bool false)), .emp]), .n (.st none 2 (.t 8) (.t 18)), .n (.st none 2 (.t 9) (.t 19))])
 (.fg [4, 6, 7, 8, 9] (.seq (.ops true [.u 20 (.ld none 2 true (.t 6)), .u 21 (.ld none 2 true (.t 9)), .u 22 (.call f1 [(.t 20), (.t 21)]), .u 23 (.ld none 2 true (.t 7)), .u 24 (.ld none 2 true (.t 8)), .u 25 (.call f1 [(.t 23), (.t 24)]), .u 26 (.call f2 [(.t 22), (.t 25)]), .u 27 (.ext 0 (.t 26)), .u 28 (.ext 1 (.t 26)), .n (.st none 3 (.t 4) (.t 27)), .m 5 (.t 28)])
 .ret)))))))
theorem rmul_sound (hΓ : Holds P Γ) {f fp fm ff : Nat} (hp : Γ fp = .dat false rparts_G) (hm : Γ fm = .dat false zmul_G) (hf : Γ ff = .dat false rform_G) (hc : check P f = some (26, (ac_fraction_Mul fp fm ff).strip, [.cell 4 3 true])) : Sound P f (.dat false rmul_G) := by
 refine sound_dat hc rmul_good hΓ (fun args K hcl hfi hG => ?_)
 match args, hG with
 | [a, b], hG =>
  obtain ⟨x, rfl, hx, y, rfl, hy, hl, hl', hK⟩ := hG
  refine ⟨by simp, ?_⟩
  simp only [go_sem, ac_fraction_Mul, hp, hm, hf, hx, hy]
  have n1 := num_le hx
  have d1 := den_le hx
  have n2 := num_le hy
  have d2 := den_le hy
  have m1 := zs_mul (rv x).num (rv y).num
  have m3 := zs_mul ((rv x).den : Int) (rv y).den
  rw [Int.natCast_mul, mul_parts]
  exact ⟨hl, hl', by omega, by omega, by omega, by omega, by omega, by omega, Int.mul_ne_zero (den_ne _) (den_ne _), hK⟩
theorem rfromE_sound (hΓ : Holds P Γ) {f fs ff tE : Nat} (hs : Γ fs = .dat true zsign_G) (hf : Γ ff = .dat false rform_G) (hc : check P f = some (14, (ac_fraction_From fs ff tE).strip, [.cell 4 3 true, .tmp 5])) : Sound P f (.dat false (rfromE_G tE)) := by
 refine sound_dat hc (rfromE_good tE) hΓ (fun args K hcl hfi hG => ?_)
 match args, hG with
 | [a, b], hG =>
  obtain ⟨v, rfl, hv, w, rfl, hw, hz, hz', hK⟩ := hG
  refine ⟨by simp, ?_⟩
  simp only [go_sem, ac_fraction_From, hs, hf, hv, hw]
  refine ⟨fun e => ?_, fun e => ?_⟩
  ·have h0 := Int.sign_eq_zero_iff_zero.1 e
   rw [if_pos h0, h0, Rat.divInt_zero, errV_s tE (by decide), rQ_eq, rcan_zero] at hK
   exact hK
  ·have h0 : zv w ≠ 0 := fun h => e (by rw [h]; rfl)
   rw [if_neg h0, errV_0] at hK
   exact ⟨hz, hz', h0, hK⟩
theorem rdivE_sound (hΓ : Holds P Γ) {f fp fm ff tE : Nat} (hp : Γ fp = .dat false rparts_G) (hm : Γ fm = .dat false zmul_G) (hf : Γ ff = .dat false (rfromE_G tE)) (hc : check P f = some (29, (ac_fraction_Div fp fm ff).strip, [.cell 4 3 true, .tmp 5])) : Sound P f (.dat false (rdivE_G tE)) := by
 refine sound_dat hc (rdivE_good tE) hΓ (fun args K hcl hfi hG => ?_)
 match args, hG with
 | [a, b], hG =>
  obtain ⟨x, rfl, hx, y, rfl, hy, hl, hl', hK⟩ := hG
  refine ⟨by simp, ?_⟩
  simp only [go_sem, ac_fraction_Div, hp, hm, hf, hx, hy]
  have n1 := num_le hx
  have d1 := den_le hx
  have n2 := num_le hy
  have d2 := den_le hy
  have m1 := zs_mul (rv x).num ((rv y).den : Int)
  have m3 := zs_mul ((rv x).den : Int) (rv y).num
  have e : ((((rv x).den : Int) * (rv y).num = 0)) = (rv y = 0) := propext ⟨fun h => by
   rcases Int.mul_eq_zero.1 h with h | h
   ·exact absurd h (den_ne _)
   ·exact Rat.num_eq_zero.1 h, fun h => by rw [h]; exact Int.mul_zero _⟩
  simp only [e]
  rw [div_eq]
  exact ⟨hl, hl', by omega, by omega, by omega, by omega, by omega, by omega, hK⟩
theorem rfromN_sound (hΓ : Holds P Γ) {f fs ff : Nat} (hs : Γ fs = .dat true zsign_G) (hf : Γ ff = .dat false rform_G) (hc : check P f = some (13, (ac_linkworkref02_From fs ff).strip, [.cell 4 3 true, .tmp 5])) : Sound P f (.dat false rfromN_G) := by
 refine sound_dat hc rfromN_good hΓ (fun args K hcl hfi hG => ?_)
 match args, hG with
 | [a, b], hG =>
  obtain ⟨v, rfl, hv, w, rfl, hw, hz, hz', hK⟩ := hG
  refine ⟨by simp, ?_⟩
  simp only [go_sem, ac_linkworkref02_From, hs, hf, hv, hw]
  refine ⟨fun e => ?_, fun e => ?_⟩
  ·have h0 := Int.sign_eq_zero_iff_zero.1 e
   rw [if_pos h0, h0, Rat.divInt_zero, rQ_eq, rcan_zero] at hK
   exact hK
  ·have h0 : zv w ≠ 0 := fun h => e (by rw [h]; rfl)
   rw [if_neg h0] at hK
   exact ⟨hz, hz', h0, hK⟩
theorem rdivN_sound (hΓ : Holds P Γ) {f fp fm ff : Nat} (hp : Γ fp = .dat false rparts_G) (hm : Γ fm = .dat false zmul_G) (hf : Γ ff = .dat false rfromN_G) (hc : check P f = some (29, (ac_linkworkref02_Div fp fm ff).strip, [.cell 4 3 true, .tmp 5])) : Sound P f (.dat false rdivN_G) := by
 refine sound_dat hc rdivN_good hΓ (fun args K hcl hfi hG => ?_)
 match args, hG with
 | [a, b], hG =>
  obtain ⟨x, rfl, hx, y, rfl, hy, hl, hl', hK⟩ := hG
  refine ⟨by simp, ?_⟩
  simp only [go_sem, ac_linkworkref02_Div, hp, hm, hf, hx, hy]
  have n1 := num_le hx
  have d1 := den_le hx
  have n2 := num_le hy
  have d2 := den_le hy
  have m1 := zs_mul (rv x).num ((rv y).den : Int)
  have m3 := zs_mul ((rv x).den : Int) (rv y).num
  have e : ((((rv x).den : Int) * (rv y).num = 0)) = (rv y = 0) := propext ⟨fun h => by
   rcases Int.mul_eq_zero.1 h with h | h
   ·exact absurd h (den_ne _)
   ·exact Rat.num_eq_zero.1 h, fun h => by rw [h]; exact Int.mul_zero _⟩
  simp only [e]
  rw [div_eq]
  exact ⟨by omega, by omega, by omega, by omega, by omega, by omega, by omega, by omega, hK⟩
end Go.Abs
end
section
set_option linter.unusedVariables false
namespace Go.Num
open Go.Abs
abbrev V2 := Rat × Rat
abbrev TnQ := Rat × Bool
abbrev PsQ := TnQ × V2
def tv (t : Tn) : TnQ := (rv t.1, t.2)
def pv (p : Ps) : PsQ := (tv p.1, av p.2)
def subQ (a b : V2) : V2 := (a.1 - b.1, a.2 - b.2)
def addQ (a b : V2) : V2 := (a.1 + b.1, a.2 + b.2)
def negQ (a : V2) : V2 := (-a.1, -a.2)
def crossQ (a b : V2) : Rat := a.1 * b.2 - a.2 * b.1
def sqQ (a : V2) : Rat := a.1 * a.1 + a.2 * a.2
def cosQ (t : TnQ) : Rat := if t.2 = true then -1 else (1 - t.1 * t.1) / (1 + t.1 * t.1)
def sinQ (t : TnQ) : Rat := if t.2 = true then 0 else (t.1 + t.1) / (1 + t.1 * t.1)
def rotQ (t : TnQ) (q : V2) : V2 := (cosQ t * q.1 - sinQ t * q.2, sinQ t * q.1 + cosQ t * q.2)
def appQ (p : PsQ) (q : V2) : V2 := addQ (rotQ p.1 q) p.2
def backQ (t : TnQ) : TnQ := (-t.1, t.2)
def invQ (p : PsQ) : PsQ := (backQ p.1, rotQ (backQ p.1) (negQ p.2))
def tchk (t : Tn) : Nat := if vldR t.1 = true ∧ ¬ (t.2 = true ∧ rv t.1 ≠ 0) then 0 else 2
def avld (a : Arc) : Bool := vldR a.1 && vldR a.2
def pvld (p : Ps) : Bool := decide (tchk p.1 = 0) && avld p.2
def zq (a : V2) : Nat := max (rz a.1) (rz a.2)
theorem zq_sub (a b : V2) : zq (subQ a b) ≤ zq a + zq b + 2 := by
 have h1 := rz_sub a.1 b.1
 have h2 := rz_sub a.2 b.2
 unfold zq subQ; simp only; omega
theorem zq_add (a b : V2) : zq (addQ a b) ≤ zq a + zq b + 2 := by
 have h1 := rz_add a.1 b.1
 have h2 := rz_add a.2 b.2
 unfold zq addQ; simp only; omega
theorem rz_cross (a b : V2) : rz (crossQ a b) ≤ 2 * zq a + 2 * zq b + 6 := by
 have h1 := rz_mul a.1 b.2
 have h2 := rz_mul a.2 b.1
 have h3 := rz_sub (a.1 * b.2) (a.2 * b.1)
 unfold zq crossQ; omega
theorem rz_sq (a : V2) : rz (sqQ a) ≤ 4 * zq a + 6 := by
 have h1 := rz_mul a.1 a.1
 have h2 := rz_mul a.2 a.2
 have h3 := rz_add (a.1 * a.1) (a.2 * a.2)
 unfold zq sqQ; omega
theorem rz_neg1 : rz (-1) ≤ 2 := by rw [show (-1 : Rat) = -(1 : Rat) from rfl, rz_neg]; exact rz_1
theorem rz_cos (t : TnQ) : rz (cosQ t) ≤ 4 * rz t.1 + 20 := by
 unfold cosQ
 split
 ·have := rz_neg1; omega
 ·have h0 := rz_1
  have h1 := rz_mul t.1 t.1
  have h2 := rz_sub 1 (t.1 * t.1)
  have h3 := rz_add 1 (t.1 * t.1)
  have h4 := rz_div (1 - t.1 * t.1) (1 + t.1 * t.1)
  omega
theorem rz_sin (t : TnQ) : rz (sinQ t) ≤ 4 * rz t.1 + 20 := by
 unfold sinQ
 split
 ·rw [rz_0]; omega
 ·have h0 := rz_1
  have h1 := rz_mul t.1 t.1
  have h2 := rz_add t.1 t.1
  have h3 := rz_add 1 (t.1 * t.1)
  have h4 := rz_div (t.1 + t.1) (1 + t.1 * t.1)
  omega
theorem zq_rot (t : TnQ) (q : V2) : zq (rotQ t q) ≤ 8 * rz t.1 + 2 * zq q + 46 := by
 have c := rz_cos t
 have s := rz_sin t
 have h1 := rz_mul (cosQ t) q.1
 have h2 := rz_mul (sinQ t) q.2
 have h3 := rz_mul (sinQ t) q.1
 have h4 := rz_mul (cosQ t) q.2
 have h5 := rz_sub (cosQ t * q.1) (sinQ t * q.2)
 have h6 := rz_add (sinQ t * q.1) (cosQ t * q.2)
 unfold zq rotQ; simp only; omega
theorem zq_app (p : PsQ) (q : V2) : zq (appQ p q) ≤ 8 * rz p.1.1 + 2 * zq q + zq p.2 + 48 := by
 have h1 := zq_rot p.1 q
 have h2 := zq_add (rotQ p.1 q) p.2
 unfold appQ; omega
theorem sq_nonneg (t : Rat) : 0 ≤ t * t := by
 rcases (Rat.le_total : 0 ≤ t ∨ t ≤ 0) with h | h
 ·exact Rat.mul_nonneg h h
 ·have h1 : 0 ≤ -t := by grind
  have h2 := Rat.mul_nonneg h1 h1
  grind
theorem av_le {a : Arc} (h : WLA a) : zq (av a) ≤ al a := by
 have h1 := rz_rv h.1
 have h2 := rz_rv h.2
 unfold zq av al; simp only; omega
end Go.Num
end
