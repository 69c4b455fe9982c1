/-
  Parts of the proof, merged: ComD.
-/
import Derived.Test.YtmhnmddljmllpaaGreatM9
set_option linter.unusedVariables false
set_option linter.unusedSimpArgs false
section
set_option linter.unusedVariables false
set_option linter.unusedSimpArgs false
set_option maxRecDepth 100000
namespace Go.Num
def limA (l : List Arc) : List Arc := if 64 < l.length then [] else l
end Go.Num
namespace Go.Abs
open Go.Num
variable {P : Program} {Γ : Nat → Spec}
def fcomb_G (l : List AV) (K : AV → Prop) : Prop :=
 match l with
 | [a, b] => asInt (fun k n => k = .i64 ∧ 0 ≤ n ∧ n ≤ 2 ∧ onL (fun L => (∀ l ∈ L, okAs 1073741824 l) ∧ L.flatten.length ≤ 100000 ∧ L.length ≤ 1000 ∧ K (.tup [.one (.slice ((limA (cmbA n.toNat L)).map aC)), .one (.lit (.int .i64 (if 64 < (cmbA n.toNat L).length then 4 else 0)))])) b) a
 | _ => False
theorem fcomb_Ge (a b : AV) (K : AV → Prop) : fcomb_G [a, b] K = (asInt (fun k n => k = .i64 ∧ 0 ≤ n ∧ n ≤ 2 ∧ onL (fun L => (∀ l ∈ L, okAs 1073741824 l) ∧ L.flatten.length ≤ 100000 ∧ L.length ≤ 1000 ∧ K (.tup [.one (.slice ((limA (cmbA n.toNat L)).map aC)), .one (.lit (.int .i64 (if 64 < (cmbA n.toNat L).length then 4 else 0)))])) b) a) := propext Iff.rfl
@[congr] theorem fcomb_Gc {K : AV → Prop} {l l' : List AV} (h : l = l') : fcomb_G l K = fcomb_G l' K := by subst h; rfl
attribute [go_sem] fcomb_Ge
attribute [go_sem ↓] fcomb_Ge
theorem fcomb_good : Good fcomb_G := good_of fun as => by
 unfold fcomb_G
 split
 ·exact (g_asInt (fun _ _ => (.and fun _ => (.and fun _ => (.and fun _ => (g_onL fun _ => (.and fun _ => (.and fun _ => (.and fun _ => (.ret _))))))))) _)
 ·exact .of fun K hk => hk.elim
def ac_linkworkref54_combine_c1 (f0 f1 f2 : Nat) : AC := (.seq (.ops true [.m 47 (.t 7), .u 48 (.len (.t 47)), .u 49 (.bin .gtr (.t 48) (.i 0)), .m 50 (.t 49), .w 51 50 true (.mv (.t 7)), .w 52 50 true (.mv (.t 7)), .w 53 50 true (.len (.t 52)), .w 54 50 true (.bin .sub (.t 53) (.i 1)), .w 55 50 true (.idx 6 (.t 51) (.t 54)), .w 56 50 true (.fa 3 (.t 55)), .w 57 50 true (.ld none 3 true (.t 56)), .w 58 50 true (.mv (.t 6)), .w 59 50 true (.mv (.t 8)), .w 60 50 true (.idx 3 (.t 58) (.t 59)), .w 61 50 true (.ld none 3 true (.t 60)), .w 62 50 true (.call f2 [(.t 57), (.t 61)]), .w 63 50 true (.bin .eql (.t 62) (.i 0)), .u 64 (.pick (.t 50) (.t 63) .fa)])
 (.fg [0, 1, 6, 7, 8, 64] (.cond (.t 64) (.ops false [.m 65 (.t 7), .m 66 (.t 7), .u 67 (.len (.t 66)), .u 68 (.bin .sub (.t 67) (.i 1)), .m 69 (.t 6), .m 70 (.t 8), .u 71 (.bin .add (.t 70) (.i 1)), .u 72 (.idx 3 (.t 69) (.t 71)), .u 73 (.ld none 3 true (.t 72)), .u 74 (.idx 6 (.t 65) (.t 68)), .u 75 (.fa 3 (.t 74)), .n (.st none 3 (.t 75) (.t 73))]) (.ops true [.m 76 (.t 7), .m 77 (.t 6), .m 78 (.t 8), .u 79 (.idx 3 (.t 77) (.t 78)), .u 80 (.ld none 3 true (.t 79)), .m 81 (.t 6), .m 82 (.t 8), .u 83 (.bin .add (.t 82) (.i 1)), .u 84 (.idx 3 (.t 81) (.t 83)), .u 85 (.ld none 3 true (.t 84)), .u 86 (.build [.x 3 (.t 80), .x 3 (.t 85)]), .u 87 (.row 6 [[.x 6 (.t 86)]]), .u 88 (.app 6 (.t 76) (.t 87)), .m 7 (.t 88)]))))
theorem ac_linkworkref54_combine_c1_e {f0 f1 f2 : Nat} (Γ : Nat → Spec) (Q : Ex → S → Prop) (s : S) : wpA Γ (ac_linkworkref54_combine_c1 f0 f1 f2) Q s = wpA Γ (.seq (.ops true [.m 47 (.t 7), .u 48 (.len (.t 47)), .u 49 (.bin .gtr (.t 48) (.i 0)), .m 50 (.t 49), .w 51 50 true (.mv (.t 7)), .w 52 50 true (.mv (.t 7)), .w 53 50 true (.len (.t 52)), .w 54 50 true (.bin .sub (.t 53) (.i 1)), .w 55 50 true (.idx 6 (.t 51) (.t 54)), .w 56 50 true (.fa 3 (.t 55)), .w 57 50 true (.ld none 3 true (.t 56)), .w 58 50 true (.mv (.t 6)), .w 59 50 true (.mv (.t 8)), .w 60 50 true (.idx 3 (.t 58) (.t 59)), .w 61 50 true (.ld none 3 true (.t 60)), .w 62 50 true (.call f2 [(.t 57), (.t 61)]), .w 63 50 true (.bin .eql (.t 62) (.i 0)), .u 64 (.pick (.t 50) (.t 63) .fa)])
 (.fg [0, 1, 6, 7, 8, 64] (.cond (.t 64) (.ops false [.m 65 (.t 7), .m 66 (.t 7), .u 67 (.len (.t 66)), .u 68 (.bin .sub (.t 67) (.i 1)), .m 69 (.t 6), .m 70 (.t 8), .u 71 (.bin .add (.t 70) (.i 1)), .u 72 (.idx 3 (.t 69) (.t 71)), .u 73 (.ld none 3 true (.t 72)), .u 74 (.idx 6 (.t 65) (.t 68)), .u 75 (.fa 3 (.t 74)), .n (.st none 3 (.t 75) (.t 73))]) (.ops true [.m 76 (.t 7), .m 77 (.t 6), .m 78 (.t 8), .u 79 (.idx 3 (.t 77) (.t 78)), .u 80 (.ld none 3 true (.t 79)), .m 81 (.t 6), .m 82 (.t 8), .u 83 (.bin .add (.t 82) (.i 1)), .u 84 (.idx 3 (.t 81) (.t 83)), .u 85 (.ld none 3 true (.t 84)), .u 86 (.build [.x 3 (.t 80), .x 3 (.t 85)]), .u 87 (.row 6 [[.x 6 (.t 86)]]), .u 88 (.app 6 (.t 76) (.t 87)), .m 7 (.t 88)])))) Q s := eq_of_heq (HEq.refl _)
attribute [go_sem ↓] ac_linkworkref54_combine_c1_e
attribute [go_sem] ac_linkworkref54_combine_c1_e
def ac_linkworkref54_combine_c2 (f0 f1 f2 : Nat) : AC := (.seq (.block 1 (.seq (.ops false [.m 19 (.t 1), .m 20 (.t 6), .m 21 (.t 8), .u 22 (.idx 3 (.t 20) (.t 21)), .u 23 (.ld none 3 true (.t 22)), .u 24 (.call f1 [(.t 19), (.t 23)]), .m 9 (.t 24)])
 (.fg [0, 1, 6, 7, 8, 9] (.seq (.seq (.ops false [.m 25 (.t 0), .u 26 (.bin .eql (.t 25) (.i 0)), .m 27 (.t 26), .w 28 27 true (.mv (.t 9)), .w 29 27 true (.bin .eql (.t 28) (.i 0)), .u 30 (.pick (.t 27) (.t 29) .fa), .m 31 (.t 30), .w 32 31 false (.mv (.t 0)), .w 33 31 false (.bin .eql (.t 32) (.i 1)), .w 34 31 false (.mv (.t 33)), .w 35 34 true (.mv (.t 9)), .w 36 34 true (.bin .lss (.t 35) (.i 2)), .w 37 31 false (.pick (.t 34) (.t 36) .fa), .u 38 (.pick (.t 31) .tr (.t 37)), .m 39 (.t 38), .w 40 39 false (.mv (.t 0)), .w 41 39 false (.bin .eql (.t 40) (.i 2)), .w 42 39 false (.mv (.t 41)), .w 43 42 true (.mv (.t 9)), .w 44 42 true (.bin .gtr (.t 43) (.i 0)), .w 45 39 false (.pick (.t 42) (.t 44) .fa), .u 46 (.pick (.t 39) .tr (.t 45))])
 (.fg [0, 1, 6, 7, 8, 46] (.cond (.t 46) (.exit 1) .skip)))
 (.fg [0, 1, 6, 7, 8] (ac_linkworkref54_combine_c1 f0 f1 f2))))))
 (.fg [0, 1, 6, 7, 8] (.ops false [.m 17 (.t 8), .u 18 (.bin .add (.t 17) (.i 1)), .m 8 (.t 18)])))
theorem ac_linkworkref54_combine_c2_e {f0 f1 f2 : Nat} (Γ : Nat → Spec) (Q : Ex → S → Prop) (s : S) : wpA Γ (ac_linkworkref54_combine_c2 f0 f1 f2) Q s = wpA Γ (.seq (.block 1 (.seq (.ops false [.m 19 (.t 1), .m 20 (.t 6), .m 21 (.t 8), .u 22 (.idx 3 (.t 20) (.t 21)), .u 23 (.ld none 3 true (.t 22)), .u 24 (.call f1 [(.t 19), (.t 23)]), .m 9 (.t 24)])
 (.fg [0, 1, 6, 7, 8, 9] (.seq (.seq (.ops false [.m 25 (.t 0), .u 26 (.bin .eql (.t 25) (.i 0)), .m 27 (.t 26), .w 28 27 true (.mv (.t 9)), .w 29 27 true (.bin .eql (.t 28) (.i 0)), .u 30 (.pick (.t 27) (.t 29) .fa), .m 31 (.t 30), .w 32 31 false (.mv (.t 0)), .w 33 31 false (.bin .eql (.t 32) (.i 1)), .w 34 31 false (.mv (.t 33)), .w 35 34 true (.mv (.t 9)), .w 36 34 true (.bin .lss (.t 35) (.i 2)), .w 37 31 false (.pick (.t 34) (.t 36) .fa), .u 38 (.pick (.t 31) .tr (.t 37)), .m 39 (.t 38), .w 40 39 false (.mv (.t 0)), .w 41 39 false (.bin .eql (.t 40) (.i 2)), .w 42 39 false (.mv (.t 41)), .w 43 42 true (.mv (.t 9)), .w 44 42 true (.bin .gtr (.t 43) (.i 0)), .w 45 39 false (.pick (.t 42) (.t 44) .fa), .u 46 (.pick (.t 39) .tr (.t 45))])
 (.fg [0, 1, 6, 7, 8, 46] (.cond (.t 46) (.exit 1) .skip)))
 (.fg [0, 1, 6, 7, 8] (ac_linkworkref54_combine_c1 f0 f1 f2))))))
 (.fg [0, 1, 6, 7, 8] (.ops false [.m 17 (.t 8), .u 18 (.bin .add (.t 17) (.i 1)), .m 8 (.t 18)]))) Q s := eq_of_heq (HEq.refl _)
attribute [go_sem ↓] ac_linkworkref54_combine_c2_e
attribute [go_sem] ac_linkworkref54_combine_c2_e
def ac_linkworkref54_combine (f0 f1 f2 : Nat) : AC := (.seq (.ops false [.m 4 (.c (.one .emp)), .m 5 (.i 0)])
 (.fg [0, 1] (.seq (.ops false [.m 10 (.t 1), .u 11 (.call f0 [(.t 10)]), .m 6 (.t 11)])
 (.fg [0, 1, 6] (.seq (.ops false [.m 7 (.c (.one .emp))])
 (.fg [0, 1, 6, 7] (.seq (.seq (.ops false [.m 8 (.i 0)])
 (.fg [0, 1, 6, 7, 8] (.block 0 (.loop (.seq (.seq (.ops false [.m 12 (.t 8), .u 13 (.bin .add (.t 12) (.i 1)), .m 14 (.t 6), .u 15 (.len (.t 14)), .u 16 (.bin .lss (.t 13) (.t 15))])
 (.fg [0, 1, 6, 7, 8, 16] (.cond (.t 16) .skip (.exit 0))))
 (.fg [0, 1, 6, 7, 8] (ac_linkworkref54_combine_c2 f0 f1 f2)))))))
 (.fg [7] (.seq (.seq (.ops false [.m 89 (.t 7), .u 90 (.len (.t 89)), .u 91 (.bin .gtr (.t 90) (.i 64))])
 (.fg [7, 91] (.cond (.t 91) (.seq (.ops false [.m 4 (.c (.one .emp)), .m 5 (.i 4)])
 .ret) .skip)))
 (.fg [7] (.seq (.ops false [.m 92 (.t 7), .m 4 (.t 92), .m 5 (.i 0)])
 .ret)))))))))))
set_option maxHeartbeats 4000000 in
theorem fcomb_sound (hΓ : Holds P Γ) {f fm fn fc : Nat} (hm : Γ fm = .dat false fmarks_G) (hn : Γ fn = .dat true fcount_G) (hcm : Γ fc = .dat true rcmp02_G) (hc : check P f = some (93, (ac_linkworkref54_combine fm fn fc).strip, [.tmp 4, .tmp 5])) : Sound P f (.dat false fcomb_G) := by
 refine sound_dat hc fcomb_good hΓ (fun args K hcl hfi hG => ?_)
 match args, hG with
 | [a, b], hG =>
  obtain ⟨k, n, rfl, rfl, hn0, hn2, L, rfl, hwL, hok, hlen, hlen2, hK⟩ := asInt_inv hG
  obtain ⟨op, rfl⟩ : ∃ op : Nat, n = (op : Int) := ⟨n.toNat, by omega⟩
  have hop : op ≤ 2 := by omega
  rw [Int.toNat_natCast] at hK
  refine ⟨by simp, ?_⟩
  obtain ⟨S, hS⟩ : ∃ S, S = marksR L := ⟨_, rfl⟩
  have hSp : 0 < S.length := by rw [hS]; exact marks_pos L
  have h0s : okRs 1073741824 [rcan 0, rcan 1] := by
   intro x hx
   simp only [List.mem_cons, List.not_mem_nil, or_false] at hx
   rcases hx with rfl | rfl
   ·exact ⟨WLR_rcan _, by rw [rl_can, rz_zero]; decide⟩
   ·exact ⟨WLR_rcan _, by rw [rl_can]; have := rz_one; omega⟩
  have hokf : okAs 1073741824 L.flatten := by
   intro z hz
   obtain ⟨l, hl, hz⟩ := List.mem_flatten.1 hz
   exact hok l hl z hz
  obtain ⟨oS, lS⟩ := insA_fold L.flatten [rcan 0, rcan 1] h0s hokf
  have eS : S = L.flatten.foldl insA [rcan 0, rcan 1] := hS
  rw [← eS] at oS lS
  simp only [List.length_cons, List.length_nil] at lS
  obtain ⟨h, hh⟩ : ∃ h : Rat → Bool, h = fun p => opB op (cnt L p) := ⟨_, rfl⟩
  simp only [go_sem, ac_linkworkref54_combine, hm, hn, hcm, ← hS]
  refine ⟨hwL, hok, by omega, ?_⟩
  refine wpA_loop (fun p : Nat => if outAt h S p = [] then ⟨mkV [(0, .one (.lit (.int .i64 op))), (1, lsA L), (6, rsA S), (7, .one .emp), (8, .one (.lit (.int .i64 p)))], mkH []⟩
    else ⟨mkV [(0, .one (.lit (.int .i64 op))), (1, lsA L), (6, rsA S), (7, .one (.own 88 1 6 0 (outAt h S p).length)), (8, .one (.lit (.int .i64 p)))], mkH [(88, ⟨1, some ⟨(outAt h S p).map aC, 6, true⟩⟩)]⟩)
   (fun p => p < S.length) (fun p => S.length - p) 0 ?_ ?_ ?_
  ·exact weak_lit (by simp [okS, okV, okC, okL, okH, okB, okE, mkV_cons, mkV_nil, mkH_cons, mkH_nil, wsA, ws, lsA, rsA, outAt]) trivial
  ·exact hSp
  ·intro i hi
   have hol := out_len h S i
   have hoo := out_ok (h := h) oS i hi
   by_cases hlt : i + 1 < S.length
   ·obtain ⟨p, hp⟩ : ∃ p, S.getD i (rcan 0) = p := ⟨_, rfl⟩
    obtain ⟨q, hq⟩ : ∃ q, S.getD (i + 1) (rcan 0) = q := ⟨_, rfl⟩
    have gp : WLR p ∧ rl p ≤ 1073741824 := by
     rw [← hp, List.getD_eq_getElem?_getD, List.getElem?_eq_getElem hi]; exact oS _ (List.getElem_mem hi)
    have gq : WLR q ∧ rl q ≤ 1073741824 := by
     rw [← hq, List.getD_eq_getElem?_getD, List.getElem?_eq_getElem hlt]; exact oS _ (List.getElem_mem hlt)
    have hnext : outAt h S (i + 1) = cmbStepR h (outAt h S i) p q := by simp only [outAt, hp, hq]
    obtain ⟨c, hcc⟩ : ∃ c, c = cnt L (rv p) := ⟨_, rfl⟩
    have hcL : c ≤ 1000 := by rw [hcc]; exact Nat.le_trans List.countP_le_length hlen2
    have hcnt : L.countP (fun l => l.any (inA (rv p))) = c := hcc.symm
    have hlt' : ((i + 1 : Nat) : Int) < (S.length : Int) := by omega
    have hhp : h (rv p) = opB op c := by rw [hh, hcc]
    match op, hop, hhp with
    | 0, _, hhp =>
     have e0 : ((((0 : Nat) : Int) = 0) = True) := by simp
     have e1 : ((((0 : Nat) : Int) = 1) = False) := by simp
     have e2 : ((((0 : Nat) : Int) = 2) = False) := by simp
     by_cases hb : c = 0
     ·have hf : (c : Int) = 0 := by omega
      have hbb : h (rv p) = false := by rw [hhp, hb]; rfl
      have hN : outAt h S (i + 1) = outAt h S i := by rw [hnext]; unfold cmbStepR; rw [hbb]; rfl
      generalize outAt h S i = O at *
      by_cases hO : O = []
      ·simp only [go_sem, hm, hn, hcm, hlt, hlt', hi, hp, hq, rC_eq, gp.1, gp.2, gq.1, gq.2, hcnt, hf, hb, e0, e1, e2, Int.lt_irrefl, hO]
       refine ⟨by omega, fun _ => ⟨hwL, hok, by omega, by omega, i + 1, ?_, hlt, by omega⟩⟩
       rw [hN, if_pos hO]
       exact weak_lit (by simp [okS, okV, okC, okL, okH, okB, okE, mkV_cons, mkV_nil, mkH_cons, mkH_nil, wsA, ws, lsA, rsA]) trivial
      ·simp only [go_sem, hm, hn, hcm, hlt, hlt', hi, hp, hq, rC_eq, gp.1, gp.2, gq.1, gq.2, hcnt, hf, hb, e0, e1, e2, Int.lt_irrefl, hO]
       refine ⟨by omega, fun _ => ⟨hwL, hok, by omega, by omega, i + 1, ?_, hlt, by omega⟩⟩
       rw [hN, if_neg hO]
       exact weak_lit (by simp [okS, okV, okC, okL, okH, okB, okE, mkV_cons, mkV_nil, mkH_cons, mkH_nil, wsA, ws, lsA, rsA]) ⟨okB_a rfl, trivial⟩
     ·have hf : ¬ (c : Int) = 0 := by omega
      have hbb : h (rv p) = true := by rw [hhp]; simp [opB, hb]
      generalize outAt h S i = O at *
      by_cases hO : O = []
      ·have hN : outAt h S (i + 1) = [(p, q)] := by rw [hnext, hO]; unfold cmbStepR; rw [hbb]; rfl
       simp only [go_sem, hm, hn, hcm, hlt, hlt', hi, hp, hq, rC_eq, gp.1, gp.2, gq.1, gq.2, hcnt, hf, hb, e0, e1, e2, Int.lt_irrefl, hO]
       refine ⟨by omega, fun _ => ⟨hwL, hok, by omega, by omega, by simp, by omega, i + 1, ?_, hlt, by omega⟩⟩
       rw [hN, if_neg (by simp)]
       exact weak_lit (by simp [okS, okV, okC, okL, okH, okB, okE, mkV_cons, mkV_nil, mkH_cons, mkH_nil, wsA, ws, lsA, rsA]) ⟨okB_a (l' := [(p, q)]) rfl, trivial⟩
      ·have hOp := List.length_pos_iff.2 hO
       obtain ⟨o, z, hoz⟩ : ∃ o z, O = o ++ [z] := by
        rcases List.eq_nil_or_concat O with h' | ⟨o, z, h'⟩
        ·exact absurd h' hO
        ·exact ⟨o, z, by rw [h', List.concat_eq_append]⟩
       have lo : O.length = o.length + 1 := by rw [hoz]; simp
       have n3 : (O.length : Int) - 1 = (o.length : Int) := by omega
       have hpO : (0 : Int) < (O.length : Int) := by omega
       have hoO : o.length < O.length := by omega
       have gl : O.getD o.length a0 = z := by rw [hoz]; exact getM o [] z a0 rfl
       have sl : O.set o.length (z.1, q) = o ++ [(z.1, q)] := by rw [hoz]; exact setM o [] z (z.1, q) rfl
       have hz := hoo z (by rw [hoz]; simp)
       have hz2 : rl z.2 ≤ 1073741824 := Nat.le_trans (Nat.le_max_right _ _) hz.2
       have hz4 := hz.1.2
       have hgl : O.getLast? = some z := by rw [hoz]; simp
       by_cases hzp : ordQ (rv z.2) (rv p) = 0
       ·have hN : outAt h S (i + 1) = o ++ [(z.1, q)] := by
         rw [hnext]; unfold cmbStepR; rw [hbb, if_pos rfl, hgl]
         simp only
         rw [if_pos (ordQ_eq0.1 hzp), hoz, List.dropLast_concat]
        simp only [go_sem, hm, hn, hcm, hlt, hlt', hi, hp, hq, rC_eq, gp.1, gp.2, gq.1, gq.2, hcnt, hf, hb, e0, e1, e2, Int.lt_irrefl, hO, n3, hpO, hoO, gl, aC_eq, hz2, hz4, hzp, sl]
        refine ⟨by omega, fun _ => ⟨hwL, hok, by omega, by omega, by omega, by omega, fun _ => ⟨by omega, by omega, by omega, i + 1, ?_, hlt, by omega⟩⟩⟩
        rw [hN, if_neg (by simp)]
        exact weak_lit (by simp [okS, okV, okC, okL, okH, okB, okE, mkV_cons, mkV_nil, mkH_cons, mkH_nil, wsA, ws, lsA, rsA]; omega) ⟨okB_a (l' := o ++ [(z.1, q)]) rfl, trivial⟩
       ·have hN : outAt h S (i + 1) = O ++ [(p, q)] := by
         rw [hnext]; unfold cmbStepR; rw [hbb, if_pos rfl, hgl]
         simp only
         rw [if_neg (fun h' => hzp (ordQ_eq0.2 h'))]
        simp only [go_sem, hm, hn, hcm, hlt, hlt', hi, hp, hq, rC_eq, gp.1, gp.2, gq.1, gq.2, hcnt, hf, hb, e0, e1, e2, Int.lt_irrefl, hO, n3, hpO, hoO, gl, aC_eq, hz2, hz4, hzp]
        refine ⟨by omega, fun _ => ⟨hwL, hok, by omega, by omega, by omega, by omega, by omega, by simp, by omega, by omega, i + 1, ?_, hlt, by omega⟩⟩
        rw [hN, if_neg (by simp)]
        exact weak_lit (by simp [okS, okV, okC, okL, okH, okB, okE, mkV_cons, mkV_nil, mkH_cons, mkH_nil, wsA, ws, lsA, rsA]) ⟨okB_a (l' := O ++ [(p, q)]) (by simp [aC]), trivial⟩
    | 1, _, hhp =>
     have e0 : ((((1 : Nat) : Int) = 0) = False) := by simp
     have e1 : ((((1 : Nat) : Int) = 1) = True) := by simp
     have e2 : ((((1 : Nat) : Int) = 2) = False) := by simp
     by_cases hb : c < 2
     ·have hf : (c : Int) < 2 := by omega
      have hbb : h (rv p) = false := by rw [hhp]; simp [opB, hb]
      have hN : outAt h S (i + 1) = outAt h S i := by rw [hnext]; unfold cmbStepR; rw [hbb]; rfl
      generalize outAt h S i = O at *
      by_cases hO : O = []
      ·simp only [go_sem, hm, hn, hcm, hlt, hlt', hi, hp, hq, rC_eq, gp.1, gp.2, gq.1, gq.2, hcnt, hf, hb, e0, e1, e2, Int.lt_irrefl, hO]
       refine ⟨by omega, fun _ => ⟨hwL, hok, by omega, by omega, i + 1, ?_, hlt, by omega⟩⟩
       rw [hN, if_pos hO]
       exact weak_lit (by simp [okS, okV, okC, okL, okH, okB, okE, mkV_cons, mkV_nil, mkH_cons, mkH_nil, wsA, ws, lsA, rsA]) trivial
      ·simp only [go_sem, hm, hn, hcm, hlt, hlt', hi, hp, hq, rC_eq, gp.1, gp.2, gq.1, gq.2, hcnt, hf, hb, e0, e1, e2, Int.lt_irrefl, hO]
       refine ⟨by omega, fun _ => ⟨hwL, hok, by omega, by omega, i + 1, ?_, hlt, by omega⟩⟩
       rw [hN, if_neg hO]
       exact weak_lit (by simp [okS, okV, okC, okL, okH, okB, okE, mkV_cons, mkV_nil, mkH_cons, mkH_nil, wsA, ws, lsA, rsA]) ⟨okB_a rfl, trivial⟩
     ·have hf : ¬ (c : Int) < 2 := by omega
      have hbb : h (rv p) = true := by rw [hhp]; simp [opB, hb]
      generalize outAt h S i = O at *
      by_cases hO : O = []
      ·have hN : outAt h S (i + 1) = [(p, q)] := by rw [hnext, hO]; unfold cmbStepR; rw [hbb]; rfl
       simp only [go_sem, hm, hn, hcm, hlt, hlt', hi, hp, hq, rC_eq, gp.1, gp.2, gq.1, gq.2, hcnt, hf, hb, e0, e1, e2, Int.lt_irrefl, hO]
       refine ⟨by omega, fun _ => ⟨hwL, hok, by omega, by omega, by simp, by omega, i + 1, ?_, hlt, by omega⟩⟩
       rw [hN, if_neg (by simp)]
       exact weak_lit (by simp [okS, okV, okC, okL, okH, okB, okE, mkV_cons, mkV_nil, mkH_cons, mkH_nil, wsA, ws, lsA, rsA]) ⟨okB_a (l' := [(p, q)]) rfl, trivial⟩
      ·have hOp := List.length_pos_iff.2 hO
       obtain ⟨o, z, hoz⟩ : ∃ o z, O = o ++ [z] := by
        rcases List.eq_nil_or_concat O with h' | ⟨o, z, h'⟩
        ·exact absurd h' hO
        ·exact ⟨o, z, by rw [h', List.concat_eq_append]⟩
       have lo : O.length = o.length + 1 := by rw [hoz]; simp
       have n3 : (O.length : Int) - 1 = (o.length : Int) := by omega
       have hpO : (0 : Int) < (O.length : Int) := by omega
       have hoO : o.length < O.length := by omega
       have gl : O.getD o.length a0 = z := by rw [hoz]; exact getM o [] z a0 rfl
       have sl : O.set o.length (z.1, q) = o ++ [(z.1, q)] := by rw [hoz]; exact setM o [] z (z.1, q) rfl
       have hz := hoo z (by rw [hoz]; simp)
       have hz2 : rl z.2 ≤ 1073741824 := Nat.le_trans (Nat.le_max_right _ _) hz.2
       have hz4 := hz.1.2
       have hgl : O.getLast? = some z := by rw [hoz]; simp
       by_cases hzp : ordQ (rv z.2) (rv p) = 0
       ·have hN : outAt h S (i + 1) = o ++ [(z.1, q)] := by
         rw [hnext]; unfold cmbStepR; rw [hbb, if_pos rfl, hgl]
         simp only
         rw [if_pos (ordQ_eq0.1 hzp), hoz, List.dropLast_concat]
        simp only [go_sem, hm, hn, hcm, hlt, hlt', hi, hp, hq, rC_eq, gp.1, gp.2, gq.1, gq.2, hcnt, hf, hb, e0, e1, e2, Int.lt_irrefl, hO, n3, hpO, hoO, gl, aC_eq, hz2, hz4, hzp, sl]
        refine ⟨by omega, fun _ => ⟨hwL, hok, by omega, by omega, by omega, by omega, fun _ => ⟨by omega, by omega, by omega, i + 1, ?_, hlt, by omega⟩⟩⟩
        rw [hN, if_neg (by simp)]
        exact weak_lit (by simp [okS, okV, okC, okL, okH, okB, okE, mkV_cons, mkV_nil, mkH_cons, mkH_nil, wsA, ws, lsA, rsA]; omega) ⟨okB_a (l' := o ++ [(z.1, q)]) rfl, trivial⟩
       ·have hN : outAt h S (i + 1) = O ++ [(p, q)] := by
         rw [hnext]; unfold cmbStepR; rw [hbb, if_pos rfl, hgl]
         simp only
         rw [if_neg (fun h' => hzp (ordQ_eq0.2 h'))]
        simp only [go_sem, hm, hn, hcm, hlt, hlt', hi, hp, hq, rC_eq, gp.1, gp.2, gq.1, gq.2, hcnt, hf, hb, e0, e1, e2, Int.lt_irrefl, hO, n3, hpO, hoO, gl, aC_eq, hz2, hz4, hzp]
        refine ⟨by omega, fun _ => ⟨hwL, hok, by omega, by omega, by omega, by omega, by omega, by simp, by omega, by omega, i + 1, ?_, hlt, by omega⟩⟩
        rw [hN, if_neg (by simp)]
        exact weak_lit (by simp [okS, okV, okC, okL, okH, okB, okE, mkV_cons, mkV_nil, mkH_cons, mkH_nil, wsA, ws, lsA, rsA]) ⟨okB_a (l' := O ++ [(p, q)]) (by simp [aC]), trivial⟩
    | 2, _, hhp =>
     have e0 : ((((2 : Nat) : Int) = 0) = False) := by simp
     have e1 : ((((2 : Nat) : Int) = 1) = False) := by simp
     have e2 : ((((2 : Nat) : Int) = 2) = True) := by simp
     by_cases hb : 0 < c
     ·have hf : (0 : Int) < (c : Int) := by omega
      have hbb : h (rv p) = false := by rw [hhp]; simp [opB, hb]
      have hN : outAt h S (i + 1) = outAt h S i := by rw [hnext]; unfold cmbStepR; rw [hbb]; rfl
      generalize outAt h S i = O at *
      by_cases hO : O = []
      ·simp only [go_sem, hm, hn, hcm, hlt, hlt', hi, hp, hq, rC_eq, gp.1, gp.2, gq.1, gq.2, hcnt, hf, hb, e0, e1, e2, Int.lt_irrefl, hO]
       refine ⟨by omega, fun _ => ⟨hwL, hok, by omega, by omega, i + 1, ?_, hlt, by omega⟩⟩
       rw [hN, if_pos hO]
       exact weak_lit (by simp [okS, okV, okC, okL, okH, okB, okE, mkV_cons, mkV_nil, mkH_cons, mkH_nil, wsA, ws, lsA, rsA]) trivial
      ·simp only [go_sem, hm, hn, hcm, hlt, hlt', hi, hp, hq, rC_eq, gp.1, gp.2, gq.1, gq.2, hcnt, hf, hb, e0, e1, e2, Int.lt_irrefl, hO]
       refine ⟨by omega, fun _ => ⟨hwL, hok, by omega, by omega, i + 1, ?_, hlt, by omega⟩⟩
       rw [hN, if_neg hO]
       exact weak_lit (by simp [okS, okV, okC, okL, okH, okB, okE, mkV_cons, mkV_nil, mkH_cons, mkH_nil, wsA, ws, lsA, rsA]) ⟨okB_a rfl, trivial⟩
     ·have hf : ¬ (0 : Int) < (c : Int) := by omega
      have hbb : h (rv p) = true := by rw [hhp]; simp [opB, hb]
      generalize outAt h S i = O at *
      by_cases hO : O = []
      ·have hN : outAt h S (i + 1) = [(p, q)] := by rw [hnext, hO]; unfold cmbStepR; rw [hbb]; rfl
       simp only [go_sem, hm, hn, hcm, hlt, hlt', hi, hp, hq, rC_eq, gp.1, gp.2, gq.1, gq.2, hcnt, hf, hb, e0, e1, e2, Int.lt_irrefl, hO]
       refine ⟨by omega, fun _ => ⟨hwL, hok, by omega, by omega, by simp, by omega, i + 1, ?_, hlt, by omega⟩⟩
       rw [hN, if_neg (by simp)]
       exact weak_lit (by simp [okS, okV, okC, okL, okH, okB, okE, mkV_cons, mkV_nil, mkH_cons, mkH_nil, wsA, ws, lsA, rsA]) ⟨okB_a (l' := [(p, q)]) rfl, trivial⟩
      ·have hOp := List.length_pos_iff.2 hO
       obtain ⟨o, z, hoz⟩ : ∃ o z, O = o ++ [z] := by
        rcases List.eq_nil_or_concat O with h' | ⟨o, z, h'⟩
        ·exact absurd h' hO
        ·exact ⟨o, z, by rw [h', List.concat_eq_append]⟩
       have lo : O.length = o.length + 1 := by rw [hoz]; simp
       have n3 : (O.length : Int) - 1 = (o.length : Int) := by omega
       have hpO : (0 : Int) < (O.length : Int) := by omega
       have hoO : o.length < O.length := by omega
       have gl : O.getD o.length a0 = z := by rw [hoz]; exact getM o [] z a0 rfl
       have sl : O.set o.length (z.1, q) = o ++ [(z.1, q)] := by rw [hoz]; exact setM o [] z (z.1, q) rfl
       have hz := hoo z (by rw [hoz]; simp)
       have hz2 : rl z.2 ≤ 1073741824 := Nat.le_trans (Nat.le_max_right _ _) hz.2
       have hz4 := hz.1.2
       have hgl : O.getLast? = some z := by rw [hoz]; simp
       by_cases hzp : ordQ (rv z.2) (rv p) = 0
       ·have hN : outAt h S (i + 1) = o ++ [(z.1, q)] := by
         rw [hnext]; unfold cmbStepR; rw [hbb, if_pos rfl, hgl]
         simp only
         rw [if_pos (ordQ_eq0.1 hzp), hoz, List.dropLast_concat]
        simp only [go_sem, hm, hn, hcm, hlt, hlt', hi, hp, hq, rC_eq, gp.1, gp.2, gq.1, gq.2, hcnt, hf, hb, e0, e1, e2, Int.lt_irrefl, hO, n3, hpO, hoO, gl, aC_eq, hz2, hz4, hzp, sl]
        refine ⟨by omega, fun _ => ⟨hwL, hok, by omega, by omega, by omega, by omega, fun _ => ⟨by omega, by omega, by omega, i + 1, ?_, hlt, by omega⟩⟩⟩
        rw [hN, if_neg (by simp)]
        exact weak_lit (by simp [okS, okV, okC, okL, okH, okB, okE, mkV_cons, mkV_nil, mkH_cons, mkH_nil, wsA, ws, lsA, rsA]; omega) ⟨okB_a (l' := o ++ [(z.1, q)]) rfl, trivial⟩
       ·have hN : outAt h S (i + 1) = O ++ [(p, q)] := by
         rw [hnext]; unfold cmbStepR; rw [hbb, if_pos rfl, hgl]
         simp only
         rw [if_neg (fun h' => hzp (ordQ_eq0.2 h'))]
        simp only [go_sem, hm, hn, hcm, hlt, hlt', hi, hp, hq, rC_eq, gp.1, gp.2, gq.1, gq.2, hcnt, hf, hb, e0, e1, e2, Int.lt_irrefl, hO, n3, hpO, hoO, gl, aC_eq, hz2, hz4, hzp]
        refine ⟨by omega, fun _ => ⟨hwL, hok, by omega, by omega, by omega, by omega, by omega, by simp, by omega, by omega, i + 1, ?_, hlt, by omega⟩⟩
        rw [hN, if_neg (by simp)]
        exact weak_lit (by simp [okS, okV, okC, okL, okH, okB, okE, mkV_cons, mkV_nil, mkH_cons, mkH_nil, wsA, ws, lsA, rsA]) ⟨okB_a (l' := O ++ [(p, q)]) (by simp [aC]), trivial⟩
   ·have hil : i = S.length - 1 := by omega
    have hfin : cmbA op L = outAt h S i := by unfold cmbA; rw [← hS, ← hh, ← hil]
    rw [hfin] at hK
    have hlt' : ¬ ((i + 1 : Nat) : Int) < (S.length : Int) := by omega
    generalize outAt h S i = O at *
    by_cases hO : O = []
    ·subst hO
     simp only [go_sem, hm, hn, hcm, hlt, hlt']
     have hK' : K (.tup [.one (.slice []), .one (.lit (.int .i64 0))]) := hK
     exact ⟨by omega, fun _ => ⟨fun h => absurd h (by decide), fun _ => hK'⟩⟩
    ·simp only [go_sem, hm, hn, hcm, hlt, hlt', hO]
     refine ⟨by omega, fun _ _ => ⟨fun h => ?_, fun h => ?_⟩⟩
     ·rw [limA, if_pos (by omega), if_pos (by omega)] at hK
      exact hK
     ·rw [limA, if_neg (by omega), if_neg (by omega)] at hK
      exact hK
end Go.Abs
end
