/-
  Parts of the proof, merged: PoseH, PoseI, PoseJ, PoseK, RefB, RefC, RefD, RefE, RefF.
-/
import Derived.Test.YtobkolmneiiheaaGreatDoorM8
set_option linter.unusedVariables false
set_option linter.unusedSimpArgs false
section
set_option linter.unusedVariables false
set_option linter.unusedSimpArgs false
set_option maxRecDepth 100000
namespace Go.Num
open Go.Abs
instance decAR : DecidableEq (Arc × R) := instDecidableEqProd
instance decDy : DecidableEq Dy := instDecidableEqProd
def dz : Dy := (((false, [], []), (false, [], [])), ((false, [], []), (false, [], [])), (false, [], []))
def cenR (A : List V2) (m : Arc) : Dy := (acan (ciV A), m, rcan (sqQ (subQ (pt 0 A) (ciV A))))
def movR (A : List V2) (m : Arc) : Dy := (m, acan (ciV A), rcan (sqQ (subQ (pt 0 A) (ciV A))))
def imgsB (l : List Ps) (o : Arc) : List V2 := l.map fun p => appQ (invQ (pv p)) (av o)
def movC (l : List Ps) (o : Arc) : Nat := if chkC l [o] ≠ 0 then chkC l [o] else if crV (imgsB l o) = 0 then 8 else 0
def movQ (A : List V2) (o : V2) : DyQ := (o, ciV A, sqQ (subQ (pt 0 A) (ciV A)))
end Go.Num
namespace Go.Abs
open Go.Num
variable {P : Program} {Γ : Nat → Spec}
def rcentre_G (l : List AV) (K : AV → Prop) : Prop :=
 match l with
 | [a, b] => onPs (fun l => onA (fun m => okPs 1000 l ∧ al m ≤ 10000 ∧ l.length = 3 ∧ K (.tup [dA (if crV (imgs l m) = 0 then dz else cenR (imgs l m) m), .one (.lit (.int .i64 (if crV (imgs l m) = 0 then 8 else 0)))])) b) a
 | _ => False
theorem rcentre_Ge (a b : AV) (K : AV → Prop) : rcentre_G [a, b] K = (onPs (fun l => onA (fun m => okPs 1000 l ∧ al m ≤ 10000 ∧ l.length = 3 ∧ K (.tup [dA (if crV (imgs l m) = 0 then dz else cenR (imgs l m) m), .one (.lit (.int .i64 (if crV (imgs l m) = 0 then 8 else 0)))])) b) a) := propext Iff.rfl
@[congr] theorem rcentre_Gc {K : AV → Prop} {l l' : List AV} (h : l = l') : rcentre_G l K = rcentre_G l' K := by subst h; rfl
attribute [go_sem] rcentre_Ge
attribute [go_sem ↓] rcentre_Ge
theorem rcentre_good : Good rcentre_G := good_of fun as => by
 unfold rcentre_G
 split
 ·exact (g_onPs fun _ => (g_onA fun _ => (.and fun _ => (.and fun _ => (.and fun _ => (.ret _))))))
 ·exact .of fun K hk => hk.elim
def rmoving_G (l : List AV) (K : AV → Prop) : Prop :=
 match l with
 | [a, b] => onPs (fun l => onA (fun m => okPs 1000 l ∧ al m ≤ 10000 ∧ l.length = 3 ∧ K (.tup [dA (if crV (imgsB l m) = 0 then dz else movR (imgsB l m) m), .one (.lit (.int .i64 (if crV (imgsB l m) = 0 then 8 else 0)))])) b) a
 | _ => False
theorem rmoving_Ge (a b : AV) (K : AV → Prop) : rmoving_G [a, b] K = (onPs (fun l => onA (fun m => okPs 1000 l ∧ al m ≤ 10000 ∧ l.length = 3 ∧ K (.tup [dA (if crV (imgsB l m) = 0 then dz else movR (imgsB l m) m), .one (.lit (.int .i64 (if crV (imgsB l m) = 0 then 8 else 0)))])) b) a) := propext Iff.rfl
@[congr] theorem rmoving_Gc {K : AV → Prop} {l l' : List AV} (h : l = l') : rmoving_G l K = rmoving_G l' K := by subst h; rfl
attribute [go_sem] rmoving_Ge
attribute [go_sem ↓] rmoving_Ge
def tmoving_G (tE : Nat) (l : List AV) (K : AV → Prop) : Prop :=
 match l with
 | [a, b] => onPs (fun l => onA (fun m => okPs 1000 l ∧ al m ≤ 10000 ∧ K (.tup [dqA (if movC l m = 0 then movQ (imgsB l m) (av m) else d0), errV tE (movC l m)])) b) a
 | _ => False
theorem tmoving_Ge (tE : Nat) (a b : AV) (K : AV → Prop) : tmoving_G tE [a, b] K = (onPs (fun l => onA (fun m => okPs 1000 l ∧ al m ≤ 10000 ∧ K (.tup [dqA (if movC l m = 0 then movQ (imgsB l m) (av m) else d0), errV tE (movC l m)])) b) a) := propext Iff.rfl
@[congr] theorem tmoving_Gc (tE : Nat) {K : AV → Prop} {l l' : List AV} (h : l = l') : tmoving_G tE l K = tmoving_G tE l' K := by subst h; rfl
attribute [go_sem] tmoving_Ge
attribute [go_sem ↓] tmoving_Ge
def rpasses_G (l : List AV) (K : AV → Prop) : Prop :=
 match l with
 | [a, b] => onPs (fun l => onDy (fun d => okPs 1000 l ∧ dl d ≤ 100000 ∧ l.length ≤ 1000 ∧ K (.one (.lit (.bool (psnB l d))))) b) a
 | _ => False
theorem rpasses_Ge (a b : AV) (K : AV → Prop) : rpasses_G [a, b] K = (onPs (fun l => onDy (fun d => okPs 1000 l ∧ dl d ≤ 100000 ∧ l.length ≤ 1000 ∧ K (.one (.lit (.bool (psnB l d))))) b) a) := propext Iff.rfl
@[congr] theorem rpasses_Gc {K : AV → Prop} {l l' : List AV} (h : l = l') : rpasses_G l K = rpasses_G l' K := by subst h; rfl
attribute [go_sem] rpasses_Ge
attribute [go_sem ↓] rpasses_Ge
theorem rpasses_good : Good rpasses_G := good_of fun as => by
 unfold rpasses_G
 split
 ·exact (g_onPs fun _ => (g_onDy fun _ => (.and fun _ => (.and fun _ => (.and fun _ => (.ret _))))))
 ·exact .of fun K hk => hk.elim
def rdyad_G (l : List AV) (K : AV → Prop) : Prop :=
 match l with
 | [a] => onDy (fun d => dl d ≤ 100000 ∧ K (.one (.lit (.bool (dvld d))))) a
 | _ => False
theorem rdyad_Ge (a : AV) (K : AV → Prop) : rdyad_G [a] K = (onDy (fun d => dl d ≤ 100000 ∧ K (.one (.lit (.bool (dvld d))))) a) := propext Iff.rfl
@[congr] theorem rdyad_Gc {K : AV → Prop} {l l' : List AV} (h : l = l') : rdyad_G l K = rdyad_G l' K := by subst h; rfl
attribute [go_sem] rdyad_Ge
attribute [go_sem ↓] rdyad_Ge
theorem rdyad_good : Good rdyad_G := good_of fun as => by
 unfold rdyad_G
 split
 ·exact (g_onDy fun _ => (.and fun _ => (.ret _)))
 ·exact .of fun K hk => hk.elim
def rdshort_G (l : List AV) (K : AV → Prop) : Prop :=
 match l with
 | [a] => onDy (fun d => dl d ≤ 4294967296 ∧ K (.one (.lit (.bool (sA d.1 && (sA d.2.1 && sR 4 d.2.2)))))) a
 | _ => False
theorem rdshort_Ge (a : AV) (K : AV → Prop) : rdshort_G [a] K = (onDy (fun d => dl d ≤ 4294967296 ∧ K (.one (.lit (.bool (sA d.1 && (sA d.2.1 && sR 4 d.2.2)))))) a) := propext Iff.rfl
@[congr] theorem rdshort_Gc {K : AV → Prop} {l l' : List AV} (h : l = l') : rdshort_G l K = rdshort_G l' K := by subst h; rfl
attribute [go_sem] rdshort_Ge
attribute [go_sem ↓] rdshort_Ge
theorem rdshort_good : Good rdshort_G := good_of fun as => by
 unfold rdshort_G
 split
 ·exact (g_onDy fun _ => (.and fun _ => (.ret _)))
 ·exact .of fun K hk => hk.elim
def dequal_G (l : List AV) (K : AV → Prop) : Prop :=
 match l with
 | [a, b] => onDy (fun d => onDy (fun e => dl d ≤ 4294967296 ∧ K (.one (.lit (.bool (decide (d = e)))))) b) a
 | _ => False
theorem dequal_Ge (a b : AV) (K : AV → Prop) : dequal_G [a, b] K = (onDy (fun d => onDy (fun e => dl d ≤ 4294967296 ∧ K (.one (.lit (.bool (decide (d = e)))))) b) a) := propext Iff.rfl
@[congr] theorem dequal_Gc {K : AV → Prop} {l l' : List AV} (h : l = l') : dequal_G l K = dequal_G l' K := by subst h; rfl
attribute [go_sem] dequal_Ge
attribute [go_sem ↓] dequal_Ge
def ac_linkworkref46_Centre (f0 f1 f2 f3 : Nat) : AC := (.seq (.ops false [.u 3 (.box 6 (.t 1)), .u 4 (.alloc [(.lit (.bool false)), .emp, .emp, (.lit (.bool false)), .emp, .emp, (.lit (.bool false)), .emp, .emp, (.lit (.bool false)), .emp, .emp, (.lit (.bool false)), .emp, .emp]), .m 5 (.i 0)])
 (.fg [0, 3, 4] (.seq (.ops false [.m 9 (.t 0), .u 10 (.ld none 6 true (.t 3)), .u 11 (.call f0 [(.t 9), (.t 10)]), .m 6 (.t 11)])
 (.fg [3, 4, 6] (.seq (.ops false [.m 13 (.t 6), .u 14 (.call f1 [(.t 13)]), .m 12 (.t 14), .u 15 (.ext 0 (.t 12)), .u 16 (.ext 1 (.t 12)), .u 7 (.alloc [(.lit (.bool false)), .emp, .emp, (.lit (.bool false)), .emp, .emp]), .n (.st none 6 (.t 7) (.t 15)), .m 8 (.t 16)])
 (.fg [3, 4, 6, 7, 8] (.seq (.seq (.ops false [.m 17 (.t 8), .u 18 (.un .not (.t 17))])
 (.fg [3, 4, 6, 7, 18] (.cond (.t 18) (.seq (.ops false [.u 19 (.build [.z [(.lit (.bool false)), .emp, .emp, (.lit (.bool false)), .emp, .emp, (.lit (.bool false)), .emp, .emp, (.lit (.bool false)), .emp, .emp, (.lit (.bool false)), .emp, .emp]]), .n (.st none 15 (.t 4) (.t 19)), .m 5 (.i 8)])
 .ret) .skip)))
 (.fg [3, 4, 6, 7] (.seq (.ops true [.u 20 (.ld none 6 true (.t 7)), .u 21 (.ld none 6 true (.t 3)), .m 22 (.t 6), .u 23 (.idx 6 (.t 22) (.i 0)), .u 24 (.ld none 6 true (.t 23)), .u 25 (.ld none 6 true (.t 7)), .u 26 (.call f2 [(.t 24), (.t 25)]), .u 27 (.call f3 [(.t 26)]), .u 28 (.build [.x 6 (.t 20), .x 6 (.t 21), .x 3 (.t 27)]), .n (.st none 15 (.t 4) (.t 28)), .m 5 (.i 0)])
 .ret)))))))))
def ac_linkworkref46_Passes (f0 f1 f2 f3 : Nat) : AC := (.seq (.ops false [.u 3 (.box 15 (.t 1)), .m 4 .fa])
 (.fg [0, 3] (.seq (.seq (.ops false [.m 7 (.t 0), .u 8 (.fa 6 (.t 3)), .u 9 (.ld none 6 true (.t 8)), .u 10 (.call f0 [(.t 7), (.t 9)]), .u 11 (.len (.t 10)), .m 12 (.i 0)])
 (.fg [3, 10, 11, 12] (.block 0 (.loop (.seq (.ops false [.u 13 (.bin .lss (.t 12) (.t 11))])
 (.fg [3, 10, 11, 12, 13] (.seq (.cond (.t 13) .skip (.exit 0))
 (.fg [3, 10, 11, 12] (.seq (.block 1 (.seq (.ops false [.u 14 (.idx 6 (.t 10) (.t 12)), .u 15 (.ld none 6 true (.t 14)), .u 6 (.alloc [(.lit (.bool false)), .emp, .emp, (.lit (.bool false)), .emp, .emp]), .n (.st none 6 (.t 6) (.t 15))])
 (.fg [3, 6, 10, 11, 12] (.seq (.ops true [.u 16 (.ld none 6 true (.t 6)), .u 17 (.fa 0 (.t 3)), .u 18 (.ld none 6 true (.t 17)), .u 19 (.call f1 [(.t 16), (.t 18)]), .u 20 (.call f2 [(.t 19)]), .u 21 (.fa 12 (.t 3)), .u 22 (.ld none 3 true (.t 21)), .u 23 (.call f3 [(.t 20), (.t 22)]), .u 24 (.bin .neq (.t 23) (.i 0))])
 (.fg [3, 10, 11, 12, 24] (.cond (.t 24) (.seq (.ops false [.m 4 .fa])
 .ret) .skip))))))
 (.fg [3, 10, 11, 12] (.ops false [.u 25 (.bin .add (.t 12) (.i 1)), .m 12 (.t 25)])))))))))))
 (.fg [] (.seq (.ops false [.m 4 .tr])
 .ret)))))
def ac_linkworkref46_Dyad (f0 f1 : Nat) : AC := (.seq (.ops false [.u 1 (.box 15 (.t 0)), .m 2 .fa])
 (.fg [1] (.seq (.ops false [.u 3 (.fa 0 (.t 1)), .u 4 (.ld none 6 true (.t 3)), .u 5 (.call f0 [(.t 4)]), .m 6 (.t 5), .w 7 6 true (.fa 6 (.t 1)), .w 8 6 true (.ld none 6 true (.t 7)), .w 9 6 true (.call f0 [(.t 8)]), .u 10 (.pick (.t 6) (.t 9) .fa), .m 11 (.t 10), .w 12 11 true (.fa 12 (.t 1)), .w 13 11 true (.ld none 3 true (.t 12)), .w 14 11 true (.call f1 [(.t 13)]), .u 15 (.pick (.t 11) (.t 14) .fa), .m 2 (.t 15)])
 .ret)))
def ac_linkworkref46_Short (f0 : Nat) : AC := (.seq (.ops false [.u 1 (.box 15 (.t 0)), .m 2 .fa])
 (.fg [1] (.seq (.ops false [.u 3 (.fa 0 (.t 1)), .u 4 (.ld none 6 true (.t 3)), .u 5 (.fa 6 (.t 1)), .u 6 (.ld none 6 true (.t 5)), .u 7 (.row 6 [[.x 6 (.t 4)], [.x 6 (.t 6)]]), .u 8 (.call f0 [(.t 7)]), .m 9 (.t 8), .w 10 9 true (.fa 12 (.t 1)), .w 11 9 true (.fa 1 (.t 10)), .w 12 9 true (.ld none 1 false (.t 11)), .w 13 9 true (.len (.t 12)), .w 14 9 true (.bin .leq (.t 13) (.i 4)), .u 15 (.pick (.t 9) (.t 14) .fa), .m 16 (.t 15), .w 17 16 true (.fa 12 (.t 1)), .w 18 16 true (.fa 2 (.t 17)), .w 19 16 true (.ld none 1 false (.t 18)), .w 20 16 true (.len (.t 19)), .w 21 16 true (.bin .leq (.t 20) (.i 4)), .u 22 (.pick (.t 16) (.t 21) .fa), .m 2 (.t 22)])
 .ret)))
theorem rdyad_sound (hΓ : Holds P Γ) {f fp fv : Nat} (hp : Γ fp = .dat true pvalid_G) (hv : Γ fv = .dat true rvalid_G) (hc : check P f = some (16, (ac_linkworkref46_Dyad fp fv).strip, [.tmp 2])) : Sound P f (.dat true rdyad_G) := by
 refine sound_dat hc rdyad_good hΓ (fun args K hcl hfi hG => ?_)
 match args, hG with
 | [a], hG =>
  obtain ⟨⟨c, m, r⟩, rfl, ⟨hwc, hwm, hwr⟩, hd, hK⟩ := hG
  refine ⟨by simp, ?_⟩
  have dc : al c ≤ 100000 := Nat.le_trans (Nat.le_max_left _ _) hd
  have dm : al m ≤ 100000 := Nat.le_trans (Nat.le_trans (Nat.le_max_left _ _) (Nat.le_max_right _ _)) hd
  have dr : rl r ≤ 100000 := Nat.le_trans (Nat.le_trans (Nat.le_max_right _ _) (Nat.le_max_right _ _)) hd
  simp only at hwc hwm hwr
  unfold dvld at hK
  simp only at hK
  cases h1 : avld c with
  | false =>
   rw [h1] at hK
   simp only [go_sem, ac_linkworkref46_Dyad, hp, hv, dA, dC, mk_eta, h1]
   repeat (first | (refine And.intro (by omega) ?_) | (refine And.intro (by assumption) ?_) | (refine And.intro rfl ?_) | (refine And.intro ⟨rfl, by omega⟩ ?_) | (refine And.intro ⟨rfl, by omega, by omega⟩ ?_) | (intro _))
   exact hK
  | true =>
   cases h2 : avld m with
   | false =>
    rw [h1, h2] at hK
    simp only [go_sem, ac_linkworkref46_Dyad, hp, hv, dA, dC, mk_eta, h1, h2]
    repeat (first | (refine And.intro (by omega) ?_) | (refine And.intro (by assumption) ?_) | (refine And.intro rfl ?_) | (refine And.intro ⟨rfl, by omega⟩ ?_) | (refine And.intro ⟨rfl, by omega, by omega⟩ ?_) | (intro _))
    exact hK
   | true =>
    rw [h1, h2, Bool.true_and, Bool.true_and] at hK
    simp only [go_sem, ac_linkworkref46_Dyad, hp, hv, dA, dC, mk_eta, h1, h2]
    repeat (first | (refine And.intro (by omega) ?_) | (refine And.intro (by assumption) ?_) | (refine And.intro rfl ?_) | (refine And.intro ⟨rfl, by omega⟩ ?_) | (refine And.intro ⟨rfl, by omega, by omega⟩ ?_) | (intro _))
    exact hK
theorem rdshort_sound (hΓ : Holds P Γ) {f fs : Nat} (hs : Γ fs = .dat true ashort_G) (hc : check P f = some (23, (ac_linkworkref46_Short fs).strip, [.tmp 2])) : Sound P f (.dat true rdshort_G) := by
 refine sound_dat hc rdshort_good hΓ (fun args K hcl hfi hG => ?_)
 match args, hG with
 | [a], hG =>
  obtain ⟨⟨c, m, ⟨b, n, d⟩⟩, rfl, ⟨hwc, hwm, hwr⟩, hd, hK⟩ := hG
  refine ⟨by simp, ?_⟩
  have dc : al c ≤ 4294967296 := Nat.le_trans (Nat.le_max_left _ _) hd
  have dm : al m ≤ 4294967296 := Nat.le_trans (Nat.le_trans (Nat.le_max_left _ _) (Nat.le_max_right _ _)) hd
  have dr : rl (b, n, d) ≤ 4294967296 := Nat.le_trans (Nat.le_trans (Nat.le_max_right _ _) (Nat.le_max_right _ _)) hd
  simp only at hwc hwm hwr
  have w1 : n.length ≤ 4294967296 := Nat.le_trans (Nat.le_max_left _ _) dr
  have w2 : d.length ≤ 4294967296 := Nat.le_trans (Nat.le_max_right _ _) dr
  have oo : okAs 4294967296 [c, m] := fun z hz => by
   simp only [List.mem_cons, List.not_mem_nil, or_false] at hz
   rcases hz with rfl | rfl
   ·exact ⟨hwc, dc⟩
   ·exact ⟨hwm, dm⟩
  have ea : List.all [c, m] sA = (sA c && sA m) := by simp
  have e4 : (sA c && (sA m && sR 4 (b, n, d))) = ((sA c && sA m) && sR 4 (b, n, d)) := by rw [Bool.and_assoc]
  simp only at hK
  rw [e4] at hK
  simp only [sR] at hK
  cases h1 : (sA c && sA m) with
  | false =>
   rw [h1] at hK
   simp only [go_sem, ac_linkworkref46_Short, hs, dA, dC, mk_eta, cb, cn, cd, ws, ea, h1]
   repeat (first | (refine And.intro (by omega) ?_) | (refine And.intro (by assumption) ?_) | (refine And.intro rfl ?_) | (refine And.intro ⟨rfl, by omega⟩ ?_) | (refine And.intro ⟨rfl, by omega, by omega⟩ ?_) | (intro _))
   exact hK
  | true =>
   rw [h1, Bool.true_and] at hK
   simp only [go_sem, ac_linkworkref46_Short, hs, dA, dC, mk_eta, cb, cn, cd, ws, ea, h1]
   refine ⟨hwc, hwm, oo, fun _ => ⟨fun h h' => ?_, fun h => ?_⟩⟩
   ·have i1 : decide (n.length ≤ 4) = true := decide_eq_true (by omega)
    have i2 : decide ((d.length : Int) ≤ 4) = decide (d.length ≤ 4) := by rw [decide_eq_decide]; omega
    rw [i1, Bool.true_and] at hK
    rw [i2]; exact hK
   ·have i1 : decide (n.length ≤ 4) = false := decide_eq_false (by omega)
    rw [i1, Bool.false_and] at hK
    exact hK
theorem rcentre_sound (hΓ : Holds P Γ) {f fp fc fs fq : Nat} (hp : Γ fp = .dat false rplaces_G) (hx : Γ fc = .dat false rcirc_G) (hs : Γ fs = .dat false pless_G) (hq' : Γ fq = .dat false psq_G) (hc : check P f = some (29, (ac_linkworkref46_Centre fp fc fs fq).strip, [.cell 4 15 true, .tmp 5])) : Sound P f (.dat false rcentre_G) := by
 refine sound_dat hc rcentre_good hΓ (fun args K hcl hfi hG => ?_)
 match args, hG with
 | [a, b], hG =>
  obtain ⟨l, rfl, hwl, m, rfl, hwm, hok, hm, h3, hK⟩ := hG
  refine ⟨by simp, ?_⟩
  have ok2 := okPs_mono hok (by decide : 1000 ≤ 1000000)
  have hm1 : al m ≤ 1000000 := by omega
  have hA := okAs_imgs hok hwm hm
  have hz0 := zq_pt hok hwm hm 0
  have hz1 := zq_pt hok hwm hm 1
  have hz2 := zq_pt hok hwm hm 2
  have hla := imgs_len l m
  have hle : l.length ≤ 100000 := by omega
  have hwA := WLA_cans (imgs l m)
  have hA1 := okAs_mono' hA (by decide : _ ≤ 1000000)
  have hci := zq_ciV hz0 hz1 hz2
  obtain ⟨A, hAA⟩ : ∃ A, imgs l m = A := ⟨_, rfl⟩
  rw [hAA] at hK hA hz0 hz1 hz2 hla hwA hA1 hci
  have g0 : 0 < A.length := by omega
  have g3 : 3 ≤ A.length := by omega
  by_cases hcr : crV A = 0
  ·rw [if_pos hcr, if_pos hcr] at hK
   have hd : decide (crV A ≠ 0) = false := by simp [hcr]
   simp only [go_sem, ac_linkworkref46_Centre, hp, hx, hs, hq', aC_eq, mk_eta, hAA, crL_can, ciL_can, hd, List.length_map]
   repeat (first | (refine And.intro (by omega) ?_) | (refine And.intro (by assumption) ?_) | (refine And.intro rfl ?_) | (refine And.intro ⟨rfl, by omega⟩ ?_) | (refine And.intro ⟨rfl, by omega, by omega⟩ ?_) | (intro _))
   exact hK
  ·rw [if_neg hcr, if_neg hcr] at hK
   have hd : decide (crV A ≠ 0) = true := by simp [hcr]
   have c1 : al (rcan (pt 0 A).1, rcan (pt 0 A).2) = zq (pt 0 A) := rfl
   have c2 : al (rcan (ciV A).1, rcan (ciV A).2) = zq (ciV A) := rfl
   have c3 : al (rcan (subQ (pt 0 A) (ciV A)).1, rcan (subQ (pt 0 A) (ciV A)).2) = zq (subQ (pt 0 A) (ciV A)) := rfl
   have c4 := zq_sub (pt 0 A) (ciV A)
   simp only [go_sem, ac_linkworkref46_Centre, hp, hx, hs, hq', aC_eq, mk_eta, hAA, crL_can, ciL_can, hd, List.length_map, g0, getD_can, acan_mk, av_mk, rv_rcan, c1, c2, c3]
   repeat (first | (refine And.intro (by omega) ?_) | (refine And.intro (by assumption) ?_) | (refine And.intro rfl ?_) | (refine And.intro ⟨rfl, by omega⟩ ?_) | (refine And.intro ⟨rfl, by omega, by omega⟩ ?_) | (intro _))
   exact hK
theorem rpasses_sound (hΓ : Holds P Γ) {f fp fs fq fc : Nat} (hp : Γ fp = .dat false rplaces_G) (hs : Γ fs = .dat false pless_G) (hq' : Γ fq = .dat false psq_G) (hcm : Γ fc = .dat true rcmp02_G) (hc : check P f = some (26, (ac_linkworkref46_Passes fp fs fq fc).strip, [.tmp 4])) : Sound P f (.dat false rpasses_G) := by
 refine sound_dat hc rpasses_good hΓ (fun args K hcl hfi hG => ?_)
 match args, hG with
 | [a, b], hG =>
  obtain ⟨l, rfl, hwl, ⟨c, m, r⟩, rfl, ⟨hwc, hwm, hwr⟩, hok, hd, hlen, hK⟩ := hG
  refine ⟨by simp, ?_⟩
  have dc : al c ≤ 100000 := Nat.le_trans (Nat.le_max_left _ _) hd
  have dm : al m ≤ 100000 := Nat.le_trans (Nat.le_trans (Nat.le_max_left _ _) (Nat.le_max_right _ _)) hd
  have dr : rl r ≤ 100000 := Nat.le_trans (Nat.le_trans (Nat.le_max_right _ _) (Nat.le_max_right _ _)) hd
  simp only at hwc hwm hwr
  have ok2 := okPs_mono hok (by decide : 1000 ≤ 1000000)
  have hla := imgs_len l m
  have hzz := zq_pt hok hwm dm
  have hwA := WLA_cans (imgs l m)
  unfold psnB at hK
  obtain ⟨A, hAA⟩ : ∃ A, imgs l m = A := ⟨_, rfl⟩
  simp only at hK
  rw [hAA] at hK hla hzz hwA
  have dm1 : al m ≤ 1000000 := by omega
  have hl1 : l.length ≤ 100000 := by omega
  simp only [go_sem, ac_linkworkref46_Passes, hp, dA, dC, mk_eta, hAA]
  repeat (first | (refine And.intro (by omega) ?_) | (refine And.intro (by assumption) ?_) | (refine And.intro rfl ?_) | (refine And.intro ⟨rfl, by omega⟩ ?_) | (refine And.intro ⟨rfl, by omega, by omega⟩ ?_) | (intro _))
  refine wpA_loop (fun k : Nat => ⟨mkV [(3, .one (.ptr 3 1 0 0)), (10, qsA A), (11, .one (.lit (.int .i64 (A.map acan).length))), (12, .one (.lit (.int .i64 k)))], mkH [(3, ⟨1, some ⟨[dC (c, m, r)], 15, true⟩⟩)]⟩) (fun k => k ≤ A.length ∧ (A.take k).all (fun x => decide (sqQ (subQ x (av c)) = rv r)) = true) (fun k => A.length - k) 0 ?_ ?_ ?_
  ·exact weak_lit (by simp [okS, okV, okC, okL, okH, okB, okE, mkV_cons, mkV_nil, mkH_cons, mkH_nil, wsA, ws, qsA]) ⟨okB_d (d := (c, m, r)), trivial⟩
  ·exact ⟨Nat.zero_le _, rfl⟩
  ·rintro k ⟨hkl, hal⟩
   by_cases hlt : k < A.length
   ·have hx0 : A[k]? = some (pt k A) := getD_get hlt rfl
    have hzx := hzz k
    obtain ⟨x, hx⟩ : ∃ x, pt k A = x := ⟨_, rfl⟩
    rw [hx] at hx0 hzx
    have c1 : al (rcan x.1, rcan x.2) = zq x := rfl
    have c2 : al (rcan (subQ x (av c)).1, rcan (subQ x (av c)).2) = zq (subQ x (av c)) := rfl
    have c3 := zq_sub x (av c)
    have c4 := av_le hwc
    have c5 := rz_sq (subQ x (av c))
    cases hb : decide (sqQ (subQ x (av c)) = rv r) with
    | true =>
     have ho : ordQ (sqQ (subQ x (av c))) (rv r) = 0 := ordQ_eq0.2 (of_decide_eq_true hb)
     simp only [go_sem, hs, hq', hcm, hlt, dC, List.length_map, getD_can, acan_mk, av_mk, rv_rcan, mk_eta, hx, c1, c2, ho, aC_eq]
     repeat (first | (refine And.intro (by omega) ?_) | (refine And.intro (by assumption) ?_) | (refine And.intro rfl ?_) | (refine And.intro ⟨rfl, by omega⟩ ?_) | (refine And.intro ⟨rfl, by omega, by omega⟩ ?_) | (intro _))
     exact ⟨k + 1, weak_lit (by simp [okS, okV, okC, okL, okH, okB, okE, mkV_cons, mkV_nil, mkH_cons, mkH_nil, wsA, ws]) ⟨okB_d (d := (c, m, r)), trivial⟩, ⟨by omega, all_step hx0 hal hb⟩, by omega⟩
    | false =>
     have ho : ¬ ordQ (sqQ (subQ x (av c))) (rv r) = 0 := fun h => of_decide_eq_false hb (ordQ_eq0.1 h)
     rw [all_f hx0 hb] at hK
     simp only [go_sem, hs, hq', hcm, hlt, dC, List.length_map, getD_can, acan_mk, av_mk, rv_rcan, mk_eta, hx, c1, c2, ho, aC_eq]
     repeat (first | (refine And.intro (by omega) ?_) | (refine And.intro (by assumption) ?_) | (refine And.intro rfl ?_) | (refine And.intro ⟨rfl, by omega⟩ ?_) | (refine And.intro ⟨rfl, by omega, by omega⟩ ?_) | (intro _))
     exact hK
   ·rw [List.take_of_length_le (by omega)] at hal
    rw [hal] at hK
    simp only [go_sem, hlt, List.length_map]
    exact hK
end Go.Abs
end
section
set_option linter.unusedVariables false
set_option linter.unusedSimpArgs false
set_option maxRecDepth 100000
namespace Go.Num
open Go.Abs
abbrev CpQ := V2 × V2 × Rat × Rat × Rat × Rat × Rat
def c0 : CpQ := ((0, 0), (0, 0), 0, 0, 0, 0, 0)
def timesQ (a b : V2) : V2 := (a.1 * b.1 - a.2 * b.2, a.1 * b.2 + a.2 * b.1)
def barQ (a : V2) : V2 := (a.1, -a.2)
theorem zq_times (a b : V2) : zq (timesQ a b) ≤ 2 * zq a + 2 * zq b + 6 := by
 have a1 : rz a.1 ≤ zq a := Nat.le_max_left _ _
 have a2 : rz a.2 ≤ zq a := Nat.le_max_right _ _
 have b1 : rz b.1 ≤ zq b := Nat.le_max_left _ _
 have b2 : rz b.2 ≤ zq b := Nat.le_max_right _ _
 have m1 := rz_mul a.1 b.1
 have m2 := rz_mul a.2 b.2
 have m3 := rz_mul a.1 b.2
 have m4 := rz_mul a.2 b.1
 have s1 := rz_sub (a.1 * b.1) (a.2 * b.2)
 have s2 := rz_add (a.1 * b.2) (a.2 * b.1)
 have e : zq (timesQ a b) = max (rz (a.1 * b.1 - a.2 * b.2)) (rz (a.1 * b.2 + a.2 * b.1)) := rfl
 rw [e]
 exact Nat.max_le.2 ⟨by omega, by omega⟩
theorem zq_bar (a : V2) : zq (barQ a) = zq a := by unfold zq barQ; simp only [rz_neg]
theorem sq_0 {a : V2} (h : sqQ a = 0) : a = (0, 0) := by
 unfold sqQ at h
 have h1 := sq_nonneg a.1
 have h2 := sq_nonneg a.2
 have e1 : a.1 * a.1 = 0 := by grind
 have e2 : a.2 * a.2 = 0 := by grind
 have z1 : a.1 = 0 := by rcases Rat.mul_eq_zero.1 e1 with h | h <;> exact h
 have z2 : a.2 = 0 := by rcases Rat.mul_eq_zero.1 e2 with h | h <;> exact h
 exact Prod.ext z1 z2
theorem sub_0 {a b : V2} (h : subQ a b = (0, 0)) : a = b := by
 unfold subQ at h
 simp only [Prod.mk.injEq] at h
 exact Prod.ext (by grind) (by grind)
def lnkC (A B : List V2) (m n : V2) : Nat := if m = n then 8 else if crV A = 0 then 8 else if crV B = 0 then 8 else if ciV A = ciV B then 8 else 0
def lnkQ (A B : List V2) (m n : V2) : CpQ := (ciV A, ciV B, sqQ (subQ (pt 0 A) (ciV A)), sqQ (subQ n m), sqQ (subQ (pt 0 B) (ciV B)), -(m.1 * (subQ n m).1 + m.2 * (subQ n m).2) / sqQ (subQ n m), (m.1 * (subQ n m).2 - m.2 * (subQ n m).1) / sqQ (subQ n m))
def lkC (l : List Ps) (m n : Arc) : Nat := if chkC l [m, n] ≠ 0 then chkC l [m, n] else lnkC (imgs l m) (imgs l n) (av m) (av n)
theorem lnk_ref (m d : V2) : (-1) / sqQ d * (timesQ m (barQ d)).1 = -(m.1 * d.1 + m.2 * d.2) / sqQ d ∧ (-1) / sqQ d * (timesQ m (barQ d)).2 = (m.1 * d.2 - m.2 * d.1) / sqQ d := by
 unfold timesQ barQ
 simp only [Rat.div_def]
 constructor <;> grind
theorem chk_two {l : List Ps} {m n : Arc} (h : chkC l [m, n] = 0) : chkC l [m] = 0 ∧ chkC l [n] = 0 := by
 unfold chkC at h
 by_cases h1 : threeC l = 0
 ·rw [if_neg (by omega)] at h
  rw [chk_place h1, chk_place h1]
  unfold placeC at h
  split at h
  ·rename_i h2
   simp only [List.all_cons, List.all_nil, Bool.and_true, Bool.and_eq_true] at h2
   rw [if_pos h2.1, if_pos h2.2]
   exact ⟨rfl, rfl⟩
  ·contradiction
 ·rw [if_pos h1] at h; contradiction
end Go.Num
namespace Go.Abs
open Go.Num
variable {P : Program} {Γ : Nat → Spec}
def cqC (c : CpQ) : List C := [cb (rcan c.1.1), cn (rcan c.1.1), cd (rcan c.1.1), cb (rcan c.1.2), cn (rcan c.1.2), cd (rcan c.1.2), cb (rcan c.2.1.1), cn (rcan c.2.1.1), cd (rcan c.2.1.1), cb (rcan c.2.1.2), cn (rcan c.2.1.2), cd (rcan c.2.1.2), cb (rcan c.2.2.1), cn (rcan c.2.2.1), cd (rcan c.2.2.1), cb (rcan c.2.2.2.1), cn (rcan c.2.2.2.1), cd (rcan c.2.2.2.1), cb (rcan c.2.2.2.2.1), cn (rcan c.2.2.2.2.1), cd (rcan c.2.2.2.2.1), cb (rcan c.2.2.2.2.2.1), cn (rcan c.2.2.2.2.2.1), cd (rcan c.2.2.2.2.2.1), cb (rcan c.2.2.2.2.2.2), cn (rcan c.2.2.2.2.2.2), cd (rcan c.2.2.2.2.2.2)]
def cqA (c : CpQ) : AV := .agg (cqC c)
def cl (c : Cp) : Nat := max (al c.1) (max (al c.2.1) (max (rl c.2.2.1) (max (rl c.2.2.2.1) (max (rl c.2.2.2.2.1) (max (rl c.2.2.2.2.2.1) (rl c.2.2.2.2.2.2))))))
def ctimes_G (l : List AV) (K : AV → Prop) : Prop :=
 match l with
 | [a, b] => onA (fun p => onA (fun q => al p ≤ 100000000 ∧ al q ≤ 100000000 ∧ K (pQ (timesQ (av p) (av q)))) b) a
 | _ => False
theorem ctimes_Ge (a b : AV) (K : AV → Prop) : ctimes_G [a, b] K = (onA (fun p => onA (fun q => al p ≤ 100000000 ∧ al q ≤ 100000000 ∧ K (pQ (timesQ (av p) (av q)))) b) a) := propext Iff.rfl
@[congr] theorem ctimes_Gc {K : AV → Prop} {l l' : List AV} (h : l = l') : ctimes_G l K = ctimes_G l' K := by subst h; rfl
attribute [go_sem] ctimes_Ge
attribute [go_sem ↓] ctimes_Ge
theorem ctimes_good : Good ctimes_G := good_of fun as => by
 unfold ctimes_G
 split
 ·exact (g_onA fun _ => (g_onA fun _ => (.and fun _ => (.and fun _ => (.ret _)))))
 ·exact .of fun K hk => hk.elim
def cbar_G (l : List AV) (K : AV → Prop) : Prop :=
 match l with
 | [a] => onA (fun p => al p ≤ 100000000 ∧ vldR p.1 = true ∧ K (pQ (barQ (av p)))) a
 | _ => False
theorem cbar_Ge (a : AV) (K : AV → Prop) : cbar_G [a] K = (onA (fun p => al p ≤ 100000000 ∧ vldR p.1 = true ∧ K (pQ (barQ (av p)))) a) := propext Iff.rfl
@[congr] theorem cbar_Gc {K : AV → Prop} {l l' : List AV} (h : l = l') : cbar_G l K = cbar_G l' K := by subst h; rfl
attribute [go_sem] cbar_Ge
attribute [go_sem ↓] cbar_Ge
theorem cbar_good : Good cbar_G := good_of fun as => by
 unfold cbar_G
 split
 ·exact (g_onA fun _ => (.and fun _ => (.and fun _ => (.ret _))))
 ·exact .of fun K hk => hk.elim
def tlink_G (tE : Nat) (l : List AV) (K : AV → Prop) : Prop :=
 match l with
 | [a, b, c] => onPs (fun l => onA (fun m => onA (fun n => okPs 1000 l ∧ al m ≤ 10000 ∧ al n ≤ 10000 ∧ K (.tup [cqA (if lkC l m n = 0 then lnkQ (imgs l m) (imgs l n) (av m) (av n) else c0), errV tE (lkC l m n)])) c) b) a
 | _ => False
theorem tlink_Ge (tE : Nat) (a b c : AV) (K : AV → Prop) : tlink_G tE [a, b, c] K = (onPs (fun l => onA (fun m => onA (fun n => okPs 1000 l ∧ al m ≤ 10000 ∧ al n ≤ 10000 ∧ K (.tup [cqA (if lkC l m n = 0 then lnkQ (imgs l m) (imgs l n) (av m) (av n) else c0), errV tE (lkC l m n)])) c) b) a) := propext Iff.rfl
@[congr] theorem tlink_Gc (tE : Nat) {K : AV → Prop} {l l' : List AV} (h : l = l') : tlink_G tE l K = tlink_G tE l' K := by subst h; rfl
attribute [go_sem] tlink_Ge
attribute [go_sem ↓] tlink_Ge
theorem tlink_good (tE : Nat) : Good (tlink_G tE) := good_of fun as => by
 unfold tlink_G
 split
 ·exact (g_onPs fun _ => (g_onA fun _ => (g_onA fun _ => (.and fun _ => (.and fun _ => (.and fun _ => (.ret _)))))))
 ·exact .of fun K hk => hk.elim
def rlink_G (l : List AV) (K : AV → Prop) : Prop :=
 match l with
 | [a, b, c] => onPs (fun l => onA (fun m => onA (fun n => okPs 1000 l ∧ al m ≤ 10000 ∧ al n ≤ 10000 ∧ l.length = 3 ∧ K (.tup [cqA (if lnkC (imgs l m) (imgs l n) (av m) (av n) = 0 then lnkQ (imgs l m) (imgs l n) (av m) (av n) else c0), .one (.lit (.int .i64 (lnkC (imgs l m) (imgs l n) (av m) (av n) : Nat)))])) c) b) a
 | _ => False
theorem rlink_Ge (a b c : AV) (K : AV → Prop) : rlink_G [a, b, c] K = (onPs (fun l => onA (fun m => onA (fun n => okPs 1000 l ∧ al m ≤ 10000 ∧ al n ≤ 10000 ∧ l.length = 3 ∧ K (.tup [cqA (if lnkC (imgs l m) (imgs l n) (av m) (av n) = 0 then lnkQ (imgs l m) (imgs l n) (av m) (av n) else c0), .one (.lit (.int .i64 (lnkC (imgs l m) (imgs l n) (av m) (av n) : Nat)))])) c) b) a) := propext Iff.rfl
@[congr] theorem rlink_Gc {K : AV → Prop} {l l' : List AV} (h : l = l') : rlink_G l K = rlink_G l' K := by subst h; rfl
attribute [go_sem] rlink_Ge
attribute [go_sem ↓] rlink_Ge
theorem rlink_good : Good rlink_G := good_of fun as => by
 unfold rlink_G
 split
 ·exact (g_onPs fun _ => (g_onA fun _ => (g_onA fun _ => (.and fun _ => (.and fun _ => (.and fun _ => (.and fun _ => (.ret _))))))))
 ·exact .of fun K hk => hk.elim
def ac_linkworkref38_Times (f0 f1 f2 : Nat) : AC := (.seq (.ops false [.u 2 (.box 6 (.t 0)), .u 3 (.box 6 (.t 1)), .u 4 (.alloc [(.lit (.bool false)), .emp, .emp, (.lit (.bool false)), .emp, .emp])])
 (.fg [2, 3, 4] (.seq (.ops true [.u 5 (.fa 0 (.t 2)), .u 6 (.ld none 3 true (.t 5)), .u 7 (.fa 0 (.t 3)), .u 8 (.ld none 3 true (.t 7)), .u 9 (.call f0 [(.t 6), (.t 8)]), .u 10 (.fa 3 (.t 2)), .u 11 (.ld none 3 true (.t 10)), .u 12 (.fa 3 (.t 3)), .u 13 (.ld none 3 true (.t 12)), .u 14 (.call f0 [(.t 11), (.t 13)]), .u 15 (.call f1 [(.t 9), (.t 14)]), .u 16 (.fa 0 (.t 2)), .u 17 (.ld none 3 true (.t 16)), .u 18 (.fa 3 (.t 3)), .u 19 (.ld none 3 true (.t 18)), .u 20 (.call f0 [(.t 17), (.t 19)]), .u 21 (.fa 3 (.t 2)), .u 22 (.ld none 3 true (.t 21)), .u 23 (.fa 0 (.t 3)), .u 24 (.ld none 3 true (.t 23)), .u 25 (.call f0 [(.t 22), (.t 24)]), .u 26 (.call f2 [(.t 20), (.t 25)]), .u 27 (.build [.x 3 (.t 15), .x 3 (.t 26)]), .n (.st none 6 (.t 4) (.t 27))])
 .ret)))
def ac_linkworkref38_Bar (f0 : Nat) : AC := (.seq (.ops false [.u 1 (.box 6 (.t 0)), .u 2 (.alloc [(.lit (.bool false)), .emp, .emp, (.lit (.bool false)), .emp, .emp])])
 (.fg [1, 2] (.seq (.ops true [.u 3 (.fa 0 (.t 1)), .u 4 (.ld none 3 true (.t 3)), .u 5 (.fa 3 (.t 1)), .u 6 (.ld none 3 true (.t 5)), .u 7 (.call f0 [(.t 6)]), .u 8 (.build [.x 3 (.t 4), .x 3 (.t 7)]), .n (.st none 6 (.t 2) (.t 8))])
 .ret)))
def ac_threepos_Linkage (f0 f1 f2 f3 f4 f5 f6 f7 f8 f9 tE : Nat) : AC := (.seq (.ops false [.u 4 (.box 6 (.t 1)), .u 5 (.box 6 (.t 2)), .u 6 (.alloc [(.lit (.bool false)), .emp, .emp, (.lit (.bool false)), .emp, .emp, (.lit (.bool false)), .emp, .emp, (.lit (.bool false)), .emp, .emp, (.lit (.bool false)), .emp, .emp, (.lit (.bool false)), .emp, .emp, (.lit (.bool false)), .emp, .emp, (.lit (.bool false)), .emp, .emp, (.lit (.bool false)), .emp, .emp]), .m 7 (.c (.one (.lit .nilIface)))])
 (.fg [0, 4, 5, 6] (.seq (.seq (.ops false [.m 16 (.t 0), .u 17 (.ld none 6 true (.t 4)), .u 18 (.ld none 6 true (.t 5)), .u 19 (.row 6 [[.x 6 (.t 17)], [.x 6 (.t 18)]]), .u 20 (.call f0 [(.t 16), (.t 19)]), .m 8 (.t 20)])
 (.fg [0, 4, 5, 6, 8] (.seq (.ops false [.m 21 (.t 8), .u 22 (.binn .neq (.t 21) (.c (.one (.lit .nilIface))))])
 (.fg [0, 4, 5, 6, 8, 22] (.cond (.t 22) (.seq (.ops false [.u 23 (.build [.z [(.lit (.bool false)), .emp, .emp, (.lit (.bool false)), .emp, .emp, (.lit (.bool false)), .emp, .emp, (.lit (.bool false)), .emp, .emp, (.lit (.bool false)), .emp, .emp, (.lit (.bool false)), .emp, .emp, (.lit (.bool false)), .emp, .emp, (.lit (.bool false)), .emp, .emp, (.lit (.bool false)), .emp, .emp]]), .m 24 (.t 8), .n (.st none 27 (.t 6) (.t 23)), .m 7 (.t 24)])
 .ret) .skip)))))
 (.fg [0, 4, 5, 6] (.seq (.seq (.ops false [.u 25 (.ld none 6 true (.t 4)), .u 26 (.ld none 6 true (.t 5)), .u 27 (.call f1 [(.t 25), (.t 26)])])
 (.fg [0, 4, 5, 6, 27] (.cond (.t 27) (.seq (.ops false [.u 28 (.build [.z [(.lit (.bool false)), .emp, .emp, (.lit (.bool false)), .emp, .emp, (.lit (.bool false)), .emp, .emp, (.lit (.bool false)), .emp, .emp, (.lit (.bool false)), .emp, .emp, (.lit (.bool false)), .emp, .emp, (.lit (.bool false)), .emp, .emp, (.lit (.bool false)), .emp, .emp, (.lit (.bool false)), .emp, .emp]]), .u 29 (.iface tE (.i 8)), .n (.st none 27 (.t 6) (.t 28)), .m 7 (.t 29)])
 .ret) .skip)))
 (.fg [0, 4, 5, 6] (.seq (.ops false [.m 31 (.t 0), .u 32 (.ld none 6 true (.t 4)), .u 33 (.call f2 [(.t 31), (.t 32)]), .m 30 (.t 33), .u 34 (.ext 0 (.t 30)), .u 35 (.ext 1 (.t 30)), .u 9 (.alloc [(.lit (.bool false)), .emp, .emp, (.lit (.bool false)), .emp, .emp, (.lit (.bool false)), .emp, .emp, (.lit (.bool false)), .emp, .emp, (.lit (.bool false)), .emp, .emp]), .n (.st none 15 (.t 9) (.t 34)), .m 10 (.t 35)])
 (.fg [0, 4, 5, 6, 9, 10] (.seq (.seq (.ops false [.m 36 (.t 10), .u 37 (.binn .neq (.t 36) (.c (.one (.lit .nilIface))))])
 (.fg [0, 4, 5, 6, 9, 10, 37] (.cond (.t 37) (.seq (.ops false [.u 38 (.build [.z [(.lit (.bool false)), .emp, .emp, (.lit (.bool false)), .emp, .emp, (.lit (.bool false)), .emp, .emp, (.lit (.bool false)), .emp, .emp, (.lit (.bool false)), .emp, .emp, (.lit (.bool false)), .emp, .emp, (.lit (.bool false)), .emp, .emp, (.lit (.bool false)), .emp, .emp, (.lit (.bool false)), .emp, .emp]]), .m 39 (.t 10), .n (.st none 27 (.t 6) (.t 38)), .m 7 (.t 39)])
 .ret) .skip)))
 (.fg [0, 4, 5, 6, 9] (.seq (.ops false [.m 41 (.t 0), .u 42 (.ld none 6 true (.t 5)), .u 43 (.call f2 [(.t 41), (.t 42)]), .m 40 (.t 43), .u 44 (.ext 0 (.t 40)), .u 45 (.ext 1 (.t 40)), .u 11 (.alloc [(.lit (.bool false)), .emp, .emp, (.lit (.bool false)), .emp, .emp, (.lit (.bool false)), .emp, .emp, (.lit (.bool false)), .emp, .emp, (.lit (.bool false)), .emp, .emp]), .n (.st none 15 (.t 11) (.t 44)), .m 10 (.t 45)])
 (.fg [4, 5, 6, 9, 10, 11] (.seq (.seq (.ops false [.m 46 (.t 10), .u 47 (.binn .neq (.t 46) (.c (.one (.lit .nilIface))))])
 (.fg [4, 5, 6, 9, 10, 11, 47] (.cond (.t 47) (.seq (.ops false [.u 48 (.build [.z [(.lit (.bool false)), .emp, .emp, (.lit (.bool false)), .emp, .emp, (.lit (.bool false)), .emp, .emp, (.lit (.bool false)), .emp, .emp, (.lit (.bool false)), .emp, .emp, (.lit (.bool false)), .emp, .emp, (.lit (.bool false)), .emp, .emp, (.lit (.bool false)), .emp, .emp, (.lit (.bool false)), .emp, .emp]]), .m 49 (.t 10), .n (.st none 27 (.t 6) (.t 48)), .m 7 (.t 49)])
 .ret) .skip)))
 (.fg [4, 5, 6, 9, 11] (.seq (.seq (.ops false [.u 50 (.fa 0 (.t 9)), .u 51 (.ld none 6 true (.t 50)), .u 52 (.fa 0 (.t 11)), .u 53 (.ld none 6 true (.t 52)), .u 54 (.call f1 [(.t 51), (.t 53)])])
 (.fg [4, 5, 6, 9, 11, 54] (.cond (.t 54) (.seq (.ops false [.u 55 (.build [.z [(.lit (.bool false)), .emp, .emp, (.lit (.bool false)), .emp, .emp, (.lit (.bool false)), .emp, .emp, (.lit (.bool false)), .emp, .emp, (.lit (.bool false)), .emp, .emp, (.lit (.bool false)), .emp, .emp, (.lit (.bool false)), .emp, .emp, (.lit (.bool false)), .emp, .emp, (.lit (.bool false)), .emp, .emp]]), .u 56 (.iface tE (.i 8)), .n (.st none 27 (.t 6) (.t 55)), .m 7 (.t 56)])
 .ret) .skip)))
 (.fg [4, 5, 6, 9, 11] (.seq (.ops false [.u 57 (.ld none 6 true (.t 5)), .u 58 (.ld none 6 true (.t 4)), .u 59 (.call f3 [(.t 57), (.t 58)]), .u 12 (.alloc [(.lit (.bool false)), .emp, .emp, (.lit (.bool false)), .emp, .emp]), .n (.st none 6 (.t 12) (.t 59))])
 (.fg [4, 6, 9, 11, 12] (.seq (.ops false [.u 60 (.ld none 6 true (.t 12)), .u 61 (.call f4 [(.t 60)]), .u 13 (.alloc [(.lit (.bool false)), .emp, .emp]), .n (.st none 3 (.t 13) (.t 61))])
 (.fg [4, 6, 9, 11, 12, 13] (.seq (.ops true [.u 63 (.fa 0 (.t 4)), .u 64 (.ld none 3 true (.t 63)), .u 65 (.fa 0 (.t 12)), .u 66 (.ld none 3 true (.t 65)), .u 67 (.call f5 [(.t 64), (.t 66)]), .u 68 (.fa 3 (.t 4)), .u 69 (.ld none 3 true (.t 68)), .u 70 (.fa 3 (.t 12)), .u 71 (.ld none 3 true (.t 70)), .u 72 (.call f5 [(.t 69), (.t 71)]), .u 73 (.call f6 [(.t 67), (.t 72)]), .u 74 (.call f7 [(.t 73)]), .u 75 (.ld none 3 true (.t 13)), .u 76 (.call f8 [(.t 74), (.t 75)]), .m 62 (.t 76), .u 77 (.ext 0 (.t 62)), .u 78 (.ext 1 (.t 62)), .u 14 (.alloc [(.lit (.bool false)), .emp, .emp]), .n (.st none 3 (.t 14) (.t 77)), .m 10 (.t 78)])
 (.fg [4, 6, 9, 10, 11, 12, 13, 14] (.seq (.seq (.ops false [.m 79 (.t 10), .u 80 (.binn .neq (.t 79) (.c (.one (.lit .nilIface))))])
 (.fg [4, 6, 9, 10, 11, 12, 13, 14, 80] (.cond (.t 80) (.seq (.ops false [.u 81 (.build [.z [(.lit (.bool false)), .emp, .emp, (.lit (.bool false)), .emp, .emp, (.lit (.bool false)), .emp, .emp, (.lit (.bool false)), .emp, .emp, (.lit (.bool false)), .emp, .emp, (.lit (.bool false)), .emp, .emp, (.lit (.bool false)), .emp, .emp, (.lit (.bool false)), .emp, .emp, (.lit (.bool false)), .emp, .emp]]), .m 82 (.t 10), .n (.st none 27 (.t 6) (.t 81)), .m 7 (.t 82)])
 .ret) .skip)))
 (.fg [4, 6, 9, 11, 12, 13, 14] (.seq (.ops true [.u 84 (.fa 0 (.t 4)), .u 85 (.ld none 3 true (.t 84)), .u 86 (.fa 3 (.t 12)), .u 87 (.ld none 3 true (.t 86)), .u 88 (.call f5 [(.t 85), (.t 87)]), .u 89 (.fa 3 (.t 4)), .u 90 (.ld none 3 true (.t 89)), .u 91 (.fa 0 (.t 12)), .u 92 (.ld none 3 true (.t 91)), .u 93 (.call f5 [(.t 90), (.t 92)]), .u 94 (.call f9 [(.t 88), (.t 93)]), .u 95 (.ld none 3 true (.t 13)), .u 96 (.call f8 [(.t 94), (.t 95)]), .m 83 (.t 96), .u 97 (.ext 0 (.t 83)), .u 98 (.ext 1 (.t 83)), .u 15 (.alloc [(.lit (.bool false)), .emp, .emp]), .n (.st none 3 (.t 15) (.t 97)), .m 10 (.t 98)])
 (.fg [6, 9, 10, 11, 13, 14, 15] (.seq (.seq (.ops false [.m 99 (.t 10), .u 100 (.binn .neq (.t 99) (.c (.one (.lit .nilIface))))])
 (.fg [6, 9, 10, 11, 13, 14, 15, 100] (.cond (.t 100) (.seq (.ops false [.u 101 (.build [.z [(.lit (.bool false)), .emp, .emp, (.lit (.bool false)), .emp, .emp, (.lit (.bool false)), .emp, .emp, (.lit (.bool false)), .emp, .emp, (.lit (.bool false)), .emp, .emp, (.lit (.bool false)), .emp, .emp, (.lit (.bool false)), .emp, .emp, (.lit (.bool false)), .emp, .emp, (.lit (.bool false)), .emp, .emp]]), .m 102 (.t 10), .n (.st none 27 (.t 6) (.t 101)), .m 7 (.t 102)])
 .ret) .skip)))
 (.fg [6, 9, 11, 13, 14, 15] (.seq (.ops false [.u 103 (.fa 0 (.t 9)), .u 104 (.ld none 6 true (.t 103)), .u 105 (.fa 0 (.t 11)), .u 106 (.ld none 6 true (.t 105)), .u 107 (.fa 12 (.t 9)), .u 108 (.ld none 3 true (.t 107)), .u 109 (.ld none 3 true (.t 13)), .u 110 (.fa 12 (.t 11)), .u 111 (.ld none 3 true (.t 110)), .u 112 (.ld none 3 true (.t 14)), .u 113 (.ld none 3 true (.t 15)), .u 114 (.build [.x 6 (.t 104), .x 6 (.t 106), .x 3 (.t 108), .x 3 (.t 109), .x 3 (.t 111), .x 3 (.t 112), .x 3 (.t 113)]), .n (.st none 27 (.t 6) (.t 114)), .m 7 (.c (.one (.lit .nilIface)))])
 .ret)))))))))))))))))))))))))))))
def ac_linkworkref46_Linkage (f0 f1 f2 f3 f4 f5 f6 f7 f8 : Nat) : AC := (.seq (.ops false [.u 4 (.box 6 (.t 1)), .u 5 (.box 6 (.t 2)), .u 6 (.alloc [(.lit (.bool false)), .emp, .emp, (.lit (.bool false)), .emp, .emp, (.lit (.bool false)), .emp, .emp, (.lit (.bool false)), .emp, .emp, (.lit (.bool false)), .emp, .emp, (.lit (.bool false)), .emp, .emp, (.lit (.bool false)), .emp, .emp, (.lit (.bool false)), .emp, .emp, (.lit (.bool false)), .emp, .emp]), .m 7 (.i 0)])
 (.fg [0, 4, 5, 6] (.seq (.seq (.ops false [.u 15 (.ld none 6 true (.t 4)), .u 16 (.ld none 6 true (.t 5)), .u 17 (.call f0 [(.t 15), (.t 16)])])
 (.fg [0, 4, 5, 6, 17] (.cond (.t 17) (.seq (.ops false [.u 18 (.build [.z [(.lit (.bool false)), .emp, .emp, (.lit (.bool false)), .emp, .emp, (.lit (.bool false)), .emp, .emp, (.lit (.bool false)), .emp, .emp, (.lit (.bool false)), .emp, .emp, (.lit (.bool false)), .emp, .emp, (.lit (.bool false)), .emp, .emp, (.lit (.bool false)), .emp, .emp, (.lit (.bool false)), .emp, .emp]]), .n (.st none 27 (.t 6) (.t 18)), .m 7 (.i 8)])
 .ret) .skip)))
 (.fg [0, 4, 5, 6] (.seq (.ops false [.m 20 (.t 0), .u 21 (.ld none 6 true (.t 4)), .u 22 (.call f1 [(.t 20), (.t 21)]), .m 19 (.t 22), .u 23 (.ext 0 (.t 19)), .u 24 (.ext 1 (.t 19)), .u 8 (.alloc [(.lit (.bool false)), .emp, .emp, (.lit (.bool false)), .emp, .emp, (.lit (.bool false)), .emp, .emp, (.lit (.bool false)), .emp, .emp, (.lit (.bool false)), .emp, .emp]), .n (.st none 15 (.t 8) (.t 23)), .m 9 (.t 24)])
 (.fg [0, 4, 5, 6, 8, 9] (.seq (.seq (.ops false [.m 25 (.t 9), .u 26 (.bin .neq (.t 25) (.i 0))])
 (.fg [0, 4, 5, 6, 8, 9, 26] (.cond (.t 26) (.seq (.ops false [.u 27 (.build [.z [(.lit (.bool false)), .emp, .emp, (.lit (.bool false)), .emp, .emp, (.lit (.bool false)), .emp, .emp, (.lit (.bool false)), .emp, .emp, (.lit (.bool false)), .emp, .emp, (.lit (.bool false)), .emp, .emp, (.lit (.bool false)), .emp, .emp, (.lit (.bool false)), .emp, .emp, (.lit (.bool false)), .emp, .emp]]), .m 28 (.t 9), .n (.st none 27 (.t 6) (.t 27)), .m 7 (.t 28)])
 .ret) .skip)))
 (.fg [0, 4, 5, 6, 8] (.seq (.ops false [.m 30 (.t 0), .u 31 (.ld none 6 true (.t 5)), .u 32 (.call f1 [(.t 30), (.t 31)]), .m 29 (.t 32), .u 33 (.ext 0 (.t 29)), .u 34 (.ext 1 (.t 29)), .u 10 (.alloc [(.lit (.bool false)), .emp, .emp, (.lit (.bool false)), .emp, .emp, (.lit (.bool false)), .emp, .emp, (.lit (.bool false)), .emp, .emp, (.lit (.bool false)), .emp, .emp]), .n (.st none 15 (.t 10) (.t 33)), .m 9 (.t 34)])
 (.fg [4, 5, 6, 8, 9, 10] (.seq (.seq (.ops false [.m 35 (.t 9), .u 36 (.bin .neq (.t 35) (.i 0))])
 (.fg [4, 5, 6, 8, 9, 10, 36] (.cond (.t 36) (.seq (.ops false [.u 37 (.build [.z [(.lit (.bool false)), .emp, .emp, (.lit (.bool false)), .emp, .emp, (.lit (.bool false)), .emp, .emp, (.lit (.bool false)), .emp, .emp, (.lit (.bool false)), .emp, .emp, (.lit (.bool false)), .emp, .emp, (.lit (.bool false)), .emp, .emp, (.lit (.bool false)), .emp, .emp, (.lit (.bool false)), .emp, .emp]]), .m 38 (.t 9), .n (.st none 27 (.t 6) (.t 37)), .m 7 (.t 38)])
 .ret) .skip)))
 (.fg [4, 5, 6, 8, 10] (.seq (.seq (.ops false [.u 39 (.fa 0 (.t 8)), .u 40 (.ld none 6 true (.t 39)), .u 41 (.fa 0 (.t 10)), .u 42 (.ld none 6 true (.t 41)), .u 43 (.call f0 [(.t 40), (.t 42)])])
 (.fg [4, 5, 6, 8, 10, 43] (.cond (.t 43) (.seq (.ops false [.u 44 (.build [.z [(.lit (.bool false)), .emp, .emp, (.lit (.bool false)), .emp, .emp, (.lit (.bool false)), .emp, .emp, (.lit (.bool false)), .emp, .emp, (.lit (.bool false)), .emp, .emp, (.lit (.bool false)), .emp, .emp, (.lit (.bool false)), .emp, .emp, (.lit (.bool false)), .emp, .emp, (.lit (.bool false)), .emp, .emp]]), .n (.st none 27 (.t 6) (.t 44)), .m 7 (.i 8)])
 .ret) .skip)))
 (.fg [4, 5, 6, 8, 10] (.seq (.ops false [.u 45 (.ld none 6 true (.t 5)), .u 46 (.ld none 6 true (.t 4)), .u 47 (.call f2 [(.t 45), (.t 46)]), .u 11 (.alloc [(.lit (.bool false)), .emp, .emp, (.lit (.bool false)), .emp, .emp]), .n (.st none 6 (.t 11) (.t 47))])
 (.fg [4, 6, 8, 10, 11] (.seq (.ops true [.u 49 (.call f3 [(.i (-1))]), .u 50 (.ld none 6 true (.t 11)), .u 51 (.call f4 [(.t 50)]), .u 52 (.call f5 [(.t 49), (.t 51)]), .m 48 (.t 52), .u 53 (.ext 0 (.t 48)), .u 54 (.ext 1 (.t 48)), .u 12 (.alloc [(.lit (.bool false)), .emp, .emp]), .n (.st none 3 (.t 12) (.t 53)), .m 13 (.t 54)])
 (.fg [4, 6, 8, 10, 11, 12] (.seq (.ops true [.u 55 (.ld none 6 true (.t 4)), .u 56 (.ld none 6 true (.t 11)), .u 57 (.call f6 [(.t 56)]), .u 58 (.call f7 [(.t 55), (.t 57)]), .u 14 (.alloc [(.lit (.bool false)), .emp, .emp, (.lit (.bool false)), .emp, .emp]), .n (.st none 6 (.t 14) (.t 58))])
 (.fg [6, 8, 10, 11, 12, 14] (.seq (.ops true [.u 59 (.fa 0 (.t 8)), .u 60 (.ld none 6 true (.t 59)), .u 61 (.fa 0 (.t 10)), .u 62 (.ld none 6 true (.t 61)), .u 63 (.fa 12 (.t 8)), .u 64 (.ld none 3 true (.t 63)), .u 65 (.ld none 6 true (.t 11)), .u 66 (.call f4 [(.t 65)]), .u 67 (.fa 12 (.t 10)), .u 68 (.ld none 3 true (.t 67)), .u 69 (.ld none 3 true (.t 12)), .u 70 (.fa 0 (.t 14)), .u 71 (.ld none 3 true (.t 70)), .u 72 (.call f8 [(.t 69), (.t 71)]), .u 73 (.ld none 3 true (.t 12)), .u 74 (.fa 3 (.t 14)), .u 75 (.ld none 3 true (.t 74)), .u 76 (.call f8 [(.t 73), (.t 75)]), .u 77 (.build [.x 6 (.t 60), .x 6 (.t 62), .x 3 (.t 64), .x 3 (.t 66), .x 3 (.t 68), .x 3 (.t 72), .x 3 (.t 76)]), .n (.st none 27 (.t 6) (.t 77)), .m 7 (.i 0)])
 .ret)))))))))))))))))))))
theorem ctimes_sound (hΓ : Holds P Γ) {f fm fs fa : Nat} (hm : Γ fm = .dat false rmul_G) (hs : Γ fs = .dat false rsub_G) (ha : Γ fa = .dat false radd_G) (hc : check P f = some (28, (ac_linkworkref38_Times fm fs fa).strip, [.cell 4 6 true])) : Sound P f (.dat false ctimes_G) := by
 refine sound_dat hc ctimes_good hΓ (fun args K hcl hfi hG => ?_)
 match args, hG with
 | [a, b], hG =>
  obtain ⟨p, rfl, hp, q, rfl, hq, hl, hl', hK⟩ := hG
  refine ⟨by simp, ?_⟩
  obtain ⟨l1, l2⟩ := al1 hl
  obtain ⟨l3, l4⟩ := al1 hl'
  have r1 := rz_rv hp.1
  have r2 := rz_rv hp.2
  have r3 := rz_rv hq.1
  have r4 := rz_rv hq.2
  have m1 := rz_mul (rv p.1) (rv q.1)
  have m2 := rz_mul (rv p.2) (rv q.2)
  have m3 := rz_mul (rv p.1) (rv q.2)
  have m4 := rz_mul (rv p.2) (rv q.1)
  have p1 := hp.1
  have p2 := hp.2
  have q1 := hq.1
  have q2 := hq.2
  have e : timesQ (av p) (av q) = (rv p.1 * rv q.1 - rv p.2 * rv q.2, rv p.1 * rv q.2 + rv p.2 * rv q.1) := rfl
  rw [e] at hK
  simp only [go_sem, ac_linkworkref38_Times, hm, hs, ha, aC_eq]
  repeat (first | (refine And.intro (by omega) ?_) | (refine And.intro (by assumption) ?_) | (refine And.intro rfl ?_) | (refine And.intro ⟨rfl, by omega⟩ ?_) | (refine And.intro ⟨rfl, by omega, by omega⟩ ?_) | (intro _))
  exact hK
theorem cbar_sound (hΓ : Holds P Γ) {f fn : Nat} (hn : Γ fn = .dat false rneg_G) (hc : check P f = some (9, (ac_linkworkref38_Bar fn).strip, [.cell 2 6 true])) : Sound P f (.dat false cbar_G) := by
 refine sound_dat hc cbar_good hΓ (fun args K hcl hfi hG => ?_)
 match args, hG with
 | [a], hG =>
  obtain ⟨p, rfl, hp, hl, hv, hK⟩ := hG
  refine ⟨by simp, ?_⟩
  obtain ⟨l1, l2⟩ := al1 hl
  have p2 := hp.2
  have e : pQ (barQ (av p)) = .agg [cb p.1, cn p.1, cd p.1, cb (rcan (-rv p.2)), cn (rcan (-rv p.2)), cd (rcan (-rv p.2))] := by
   rw [pQ_eq]
   have : rcan (barQ (av p)).1 = p.1 := rcan_of_vld hp.1 hv
   rw [this]; rfl
  rw [e] at hK
  simp only [go_sem, ac_linkworkref38_Bar, hn, aC_eq]
  repeat (first | (refine And.intro (by omega) ?_) | (refine And.intro (by assumption) ?_) | (refine And.intro rfl ?_) | (refine And.intro ⟨rfl, by omega⟩ ?_) | (refine And.intro ⟨rfl, by omega, by omega⟩ ?_) | (intro _))
  exact hK
theorem tlink_sound (hΓ : Holds P Γ) {f fk fe fc fs fq fm fa fn fd fb tE : Nat} (hk : Γ fk = .dat false (tchk3_G tE)) (he : Γ fe = .dat true psame_G) (hx : Γ fc = .dat false (tcentre_G tE)) (hs : Γ fs = .dat false pless_G) (hq' : Γ fq = .dat false psq_G) (hm' : Γ fm = .dat false rmul_G) (ha' : Γ fa = .dat false radd_G) (hn' : Γ fn = .dat false rneg_G) (hd : Γ fd = .dat false (rdivE_G tE)) (hb : Γ fb = .dat false rsub_G) (hc : check P f = some (115, (ac_threepos_Linkage fk fe fc fs fq fm fa fn fd fb tE).strip, [.cell 6 27 true, .tmp 7])) : Sound P f (.dat false (tlink_G tE)) := by
 refine sound_dat hc (tlink_good tE) hΓ (fun args K hcl hfi hG => ?_)
 match args, hG with
 | [a, b, c], hG =>
  obtain ⟨l, rfl, hwl, m, rfl, hwm, n, rfl, hwn, hok, hm, hn, hK⟩ := hG
  refine ⟨by simp, ?_⟩
  by_cases h0 : chkC l [m, n] = 0
  ·obtain ⟨hcm, hcn⟩ := chk_two h0
   have ec : lkC l m n = lnkC (imgs l m) (imgs l n) (av m) (av n) := by unfold lkC; rw [if_neg (by omega)]
   have ecm : cenC l m = if crV (imgs l m) = 0 then 8 else 0 := by unfold cenC; rw [if_neg (by omega)]
   have ecn : cenC l n = if crV (imgs l n) = 0 then 8 else 0 := by unfold cenC; rw [if_neg (by omega)]
   have hm1 : al m ≤ 100000000 := by omega
   have hn1 : al n ≤ 100000000 := by omega
   have ok1 := okPs_mono hok (by decide : 1000 ≤ 100000000)
   have om : okAs 100000000 [m, n] := fun z hz => by
    simp only [List.mem_cons, List.not_mem_nil, or_false] at hz
    rcases hz with rfl | rfl
    ·exact ⟨hwm, by omega⟩
    ·exact ⟨hwn, by omega⟩
   have ha0 := zq_ciV (zq_pt hok hwm hm 0) (zq_pt hok hwm hm 1) (zq_pt hok hwm hm 2)
   have hb0 := zq_ciV (zq_pt hok hwn hn 0) (zq_pt hok hwn hn 1) (zq_pt hok hwn hn 2)
   have zm := av_le hwm
   have zn := av_le hwn
   have d1 := zq_sub (av n) (av m)
   obtain ⟨A, hAA⟩ : ∃ A, imgs l m = A := ⟨_, rfl⟩
   obtain ⟨B, hBB⟩ : ∃ B, imgs l n = B := ⟨_, rfl⟩
   rw [hAA] at ha0
   rw [hBB] at hb0
   have c1 : al (rcan (ciV A).1, rcan (ciV A).2) = zq (ciV A) := rfl
   have c2 : al (rcan (ciV B).1, rcan (ciV B).2) = zq (ciV B) := rfl
   obtain ⟨z, hz⟩ : ∃ z, subQ (av n) (av m) = z := ⟨_, rfl⟩
   rw [hz] at d1
   have c3 : al (rcan z.1, rcan z.2) = zq z := rfl
   have z1 : rz z.1 ≤ zq z := Nat.le_max_left _ _
   have z2 : rz z.2 ≤ zq z := Nat.le_max_right _ _
   have sz := rz_sq z
   have hm6 := al1 hm
   have wm1 := hwm.1
   have wm2 := hwm.2
   have rm1 := rz_rv wm1
   have rm2 := rz_rv wm2
   rw [ec, hAA, hBB] at hK
   rw [hAA] at ecm
   rw [hBB] at ecn
   have bad : lnkC A B (av m) (av n) = 8 → K (.tup [cqA c0, .one (.lit (.iface tE (.int .i64 8)))]) := by
    intro h
    rw [h, if_neg (by decide), errV_s tE (by decide)] at hK
    exact hK
   simp only [cqA, cqC, c0, rcan_zero] at bad
   by_cases hmn : av m = av n
   ·have hb' := bad (by unfold lnkC; rw [if_pos hmn])
    have dmn : decide (av m = av n) = true := decide_eq_true hmn
    simp only [go_sem, ac_threepos_Linkage, hk, he, aC_eq, mk_eta, h0, errV_0, dmn]
    repeat (first | (refine And.intro (by omega) ?_) | (refine And.intro (by assumption) ?_) | (refine And.intro rfl ?_) | (refine And.intro ⟨rfl, by omega⟩ ?_) | (refine And.intro ⟨rfl, by omega, by omega⟩ ?_) | (intro _))
    exact hb'
   ·have dmn : decide (av m = av n) = false := decide_eq_false hmn
    by_cases hcr : crV A = 0
    ·have hb' := bad (by unfold lnkC; rw [if_neg hmn, if_pos hcr])
     rw [if_pos hcr] at ecm
     simp only [go_sem, ac_threepos_Linkage, hk, he, hx, aC_eq, mk_eta, h0, errV_0, dmn, ecm, errV_s tE (by decide : 8 ≠ 0)]
     repeat (first | (refine And.intro (by omega) ?_) | (refine And.intro (by assumption) ?_) | (refine And.intro rfl ?_) | (refine And.intro ⟨rfl, by omega⟩ ?_) | (refine And.intro ⟨rfl, by omega, by omega⟩ ?_) | (intro _))
     exact hb'
    ·rw [if_neg hcr] at ecm
     by_cases hcr2 : crV B = 0
     ·have hb' := bad (by unfold lnkC; rw [if_neg hmn, if_neg hcr, if_pos hcr2])
      rw [if_pos hcr2] at ecn
      simp only [go_sem, ac_threepos_Linkage, hk, he, hx, aC_eq, mk_eta, h0, errV_0, dmn, ecm, ecn, errV_s tE (by decide : 8 ≠ 0), hAA]
      repeat (first | (refine And.intro (by omega) ?_) | (refine And.intro (by assumption) ?_) | (refine And.intro rfl ?_) | (refine And.intro ⟨rfl, by omega⟩ ?_) | (refine And.intro ⟨rfl, by omega, by omega⟩ ?_) | (intro _))
      exact hb'
     ·rw [if_neg hcr2] at ecn
      have qm : cenQ A (av m) = (ciV A, av m, sqQ (subQ (pt 0 A) (ciV A))) := rfl
      have qn : cenQ B (av n) = (ciV B, av n, sqQ (subQ (pt 0 B) (ciV B))) := rfl
      by_cases hcc : ciV A = ciV B
      ·have hb' := bad (by unfold lnkC; rw [if_neg hmn, if_neg hcr, if_neg hcr2, if_pos hcc])
       have dcc : decide (ciV A = ciV B) = true := decide_eq_true hcc
       simp only [go_sem, ac_threepos_Linkage, hk, he, hx, aC_eq, mk_eta, av_mk, rv_rcan, h0, errV_0, dmn, ecm, ecn, hAA, hBB, qm, qn, dcc, c1, c2]
       repeat (first | (refine And.intro (by omega) ?_) | (refine And.intro (by assumption) ?_) | (refine And.intro rfl ?_) | (refine And.intro ⟨rfl, by omega⟩ ?_) | (refine And.intro ⟨rfl, by omega, by omega⟩ ?_) | (intro _))
       exact hb'
      ·have dcc : decide (ciV A = ciV B) = false := decide_eq_false hcc
       have hC : lnkC A B (av m) (av n) = 0 := by unfold lnkC; rw [if_neg hmn, if_neg hcr, if_neg hcr2, if_neg hcc]
       rw [hC, if_pos rfl, errV_0] at hK
       unfold lnkQ at hK
       rw [hz] at hK
       have hs0 : ¬ sqQ z = 0 := fun h => hmn (sub_0 (by rw [hz]; exact sq_0 h)).symm
       simp only [cqA, cqC] at hK
       have m1 := rz_mul (rv m.1) z.1
       have m2 := rz_mul (rv m.2) z.2
       have m3 := rz_mul (rv m.1) z.2
       have m4 := rz_mul (rv m.2) z.1
       have s1 := rz_add (rv m.1 * z.1) (rv m.2 * z.2)
       have s2 := rz_sub (rv m.1 * z.2) (rv m.2 * z.1)
       have s3 : rz (-(rv m.1 * z.1 + rv m.2 * z.2)) = rz (rv m.1 * z.1 + rv m.2 * z.2) := rz_neg _
       simp only [go_sem, ac_threepos_Linkage, hk, he, hx, hs, hq', hm', ha', hn', hd, hb, aC_eq, mk_eta, av_mk, rv_rcan, h0, errV_0, dmn, ecm, ecn, hAA, hBB, qm, qn, dcc, c1, c2, c3, hz, hs0]
       repeat (first | (refine And.intro (by omega) ?_) | (refine And.intro (by assumption) ?_) | (refine And.intro rfl ?_) | (refine And.intro ⟨rfl, by omega⟩ ?_) | (refine And.intro ⟨rfl, by omega, by omega⟩ ?_) | (intro _))
       exact hK
  ·have ec : lkC l m n = chkC l [m, n] := by unfold lkC; rw [if_pos h0]
   rw [ec, if_neg h0, errV_s tE h0] at hK
   simp only [cqA, cqC, c0, rcan_zero] at hK
   have hm1 : al m ≤ 100000000 := by omega
   have hn1 : al n ≤ 100000000 := by omega
   have ok1 := okPs_mono hok (by decide : 1000 ≤ 100000000)
   have om : okAs 100000000 [m, n] := fun z hz => by
    simp only [List.mem_cons, List.not_mem_nil, or_false] at hz
    rcases hz with rfl | rfl
    ·exact ⟨hwm, by omega⟩
    ·exact ⟨hwn, by omega⟩
   have ha0 := zq_ciV (zq_pt hok hwm hm 0) (zq_pt hok hwm hm 1) (zq_pt hok hwm hm 2)
   have hb0 := zq_ciV (zq_pt hok hwn hn 0) (zq_pt hok hwn hn 1) (zq_pt hok hwn hn 2)
   have zm := av_le hwm
   have zn := av_le hwn
   have d1 := zq_sub (av n) (av m)
   obtain ⟨A, hAA⟩ : ∃ A, imgs l m = A := ⟨_, rfl⟩
   obtain ⟨B, hBB⟩ : ∃ B, imgs l n = B := ⟨_, rfl⟩
   rw [hAA] at ha0
   rw [hBB] at hb0
   have c1 : al (rcan (ciV A).1, rcan (ciV A).2) = zq (ciV A) := rfl
   have c2 : al (rcan (ciV B).1, rcan (ciV B).2) = zq (ciV B) := rfl
   obtain ⟨z, hz⟩ : ∃ z, subQ (av n) (av m) = z := ⟨_, rfl⟩
   rw [hz] at d1
   have c3 : al (rcan z.1, rcan z.2) = zq z := rfl
   have z1 : rz z.1 ≤ zq z := Nat.le_max_left _ _
   have z2 : rz z.2 ≤ zq z := Nat.le_max_right _ _
   have sz := rz_sq z
   have hm6 := al1 hm
   have wm1 := hwm.1
   have wm2 := hwm.2
   have rm1 := rz_rv wm1
   have rm2 := rz_rv wm2
   simp only [go_sem, ac_threepos_Linkage, hk, aC_eq, mk_eta, errV_s tE h0]
   repeat (first | (refine And.intro (by omega) ?_) | (refine And.intro (by assumption) ?_) | (refine And.intro rfl ?_) | (refine And.intro ⟨rfl, by omega⟩ ?_) | (refine And.intro ⟨rfl, by omega, by omega⟩ ?_) | (intro _))
   exact hK
theorem rlink_sound (hΓ : Holds P Γ) {f fe fc fs fo fq fd fb ft fm : Nat} (he : Γ fe = .dat true psame_G) (hx : Γ fc = .dat false rcentre_G) (hs : Γ fs = .dat false pless_G) (ho : Γ fo = .dat false rof_G) (hq' : Γ fq = .dat false psq_G) (hd : Γ fd = .dat false rdivN_G) (hb : Γ fb = .dat false cbar_G) (ht : Γ ft = .dat false ctimes_G) (hm' : Γ fm = .dat false rmul_G) (hc : check P f = some (78, (ac_linkworkref46_Linkage fe fc fs fo fq fd fb ft fm).strip, [.cell 6 27 true, .tmp 7])) : Sound P f (.dat false rlink_G) := by
 refine sound_dat hc rlink_good hΓ (fun args K hcl hfi hG => ?_)
 match args, hG with
 | [a, b, c], hG =>
  obtain ⟨l, rfl, hwl, m, rfl, hwm, n, rfl, hwn, hok, hm, hn, hl3, hK⟩ := hG
  refine ⟨by simp, ?_⟩
  have hm1 : al m ≤ 100000000 := by omega
  have hn1 : al n ≤ 100000000 := by omega
  have ok1 := okPs_mono hok (by decide : 1000 ≤ 100000000)
  have om : okAs 100000000 [m, n] := fun z hz => by
   simp only [List.mem_cons, List.not_mem_nil, or_false] at hz
   rcases hz with rfl | rfl
   ·exact ⟨hwm, by omega⟩
   ·exact ⟨hwn, by omega⟩
  have ha0 := zq_ciV (zq_pt hok hwm hm 0) (zq_pt hok hwm hm 1) (zq_pt hok hwm hm 2)
  have hb0 := zq_ciV (zq_pt hok hwn hn 0) (zq_pt hok hwn hn 1) (zq_pt hok hwn hn 2)
  have zm := av_le hwm
  have zn := av_le hwn
  have d1 := zq_sub (av n) (av m)
  obtain ⟨A, hAA⟩ : ∃ A, imgs l m = A := ⟨_, rfl⟩
  obtain ⟨B, hBB⟩ : ∃ B, imgs l n = B := ⟨_, rfl⟩
  rw [hAA] at ha0
  rw [hBB] at hb0
  have c1 : al (rcan (ciV A).1, rcan (ciV A).2) = zq (ciV A) := rfl
  have c2 : al (rcan (ciV B).1, rcan (ciV B).2) = zq (ciV B) := rfl
  obtain ⟨z, hz⟩ : ∃ z, subQ (av n) (av m) = z := ⟨_, rfl⟩
  rw [hz] at d1
  have c3 : al (rcan z.1, rcan z.2) = zq z := rfl
  have z1 : rz z.1 ≤ zq z := Nat.le_max_left _ _
  have z2 : rz z.2 ≤ zq z := Nat.le_max_right _ _
  have sz := rz_sq z
  have hm6 := al1 hm
  have wm1 := hwm.1
  have wm2 := hwm.2
  have rm1 := rz_rv wm1
  have rm2 := rz_rv wm2
  rw [hAA, hBB] at hK
  have n80 : ¬ ((8 : Int) = 0) := by decide
  have bad : lnkC A B (av m) (av n) = 8 → K (.tup [cqA c0, .one (.lit (.int .i64 8))]) := by
   intro h
   rw [h, if_neg (by decide)] at hK
   exact hK
  simp only [cqA, cqC, c0, rcan_zero] at bad
  by_cases hmn : av m = av n
  ·have hb' := bad (by unfold lnkC; rw [if_pos hmn])
   have dmn : decide (av m = av n) = true := decide_eq_true hmn
   simp only [go_sem, ac_linkworkref46_Linkage, he, aC_eq, mk_eta, dmn]
   repeat (first | (refine And.intro (by omega) ?_) | (refine And.intro (by assumption) ?_) | (refine And.intro rfl ?_) | (refine And.intro ⟨rfl, by omega⟩ ?_) | (refine And.intro ⟨rfl, by omega, by omega⟩ ?_) | (intro _))
   exact hb'
  ·have dmn : decide (av m = av n) = false := decide_eq_false hmn
   by_cases hcr : crV A = 0
   ·have hb' := bad (by unfold lnkC; rw [if_neg hmn, if_pos hcr])
    simp only [go_sem, ac_linkworkref46_Linkage, he, hx, aC_eq, mk_eta, dmn, hAA, hcr, dz, dA, dC, n80]
    repeat (first | (refine And.intro (by omega) ?_) | (refine And.intro (by assumption) ?_) | (refine And.intro rfl ?_) | (refine And.intro ⟨rfl, by omega⟩ ?_) | (refine And.intro ⟨rfl, by omega, by omega⟩ ?_) | (intro _))
    exact hb'
   ·by_cases hcr2 : crV B = 0
    ·have hb' := bad (by unfold lnkC; rw [if_neg hmn, if_neg hcr, if_pos hcr2])
     simp only [go_sem, ac_linkworkref46_Linkage, he, hx, aC_eq, mk_eta, dmn, hAA, hBB, hcr, hcr2, dz, dA, dC, n80, cenR, acan_mk]
     repeat (first | (refine And.intro (by omega) ?_) | (refine And.intro (by assumption) ?_) | (refine And.intro rfl ?_) | (refine And.intro ⟨rfl, by omega⟩ ?_) | (refine And.intro ⟨rfl, by omega, by omega⟩ ?_) | (intro _))
     exact hb'
    ·by_cases hcc : ciV A = ciV B
     ·have hb' := bad (by unfold lnkC; rw [if_neg hmn, if_neg hcr, if_neg hcr2, if_pos hcc])
      have dcc : decide (ciV A = ciV B) = true := decide_eq_true hcc
      simp only [go_sem, ac_linkworkref46_Linkage, he, hx, aC_eq, mk_eta, dmn, hAA, hBB, hcr, hcr2, dA, dC, cenR, acan_mk, av_mk, rv_rcan, c1, c2, dcc]
      repeat (first | (refine And.intro (by omega) ?_) | (refine And.intro (by assumption) ?_) | (refine And.intro rfl ?_) | (refine And.intro ⟨rfl, by omega⟩ ?_) | (refine And.intro ⟨rfl, by omega, by omega⟩ ?_) | (intro _))
      exact hb'
     ·have dcc : decide (ciV A = ciV B) = false := decide_eq_false hcc
      have hC : lnkC A B (av m) (av n) = 0 := by unfold lnkC; rw [if_neg hmn, if_neg hcr, if_neg hcr2, if_neg hcc]
      rw [hC, if_pos rfl] at hK
      unfold lnkQ at hK
      rw [hz] at hK
      have hs0 : ¬ sqQ z = 0 := fun h => hmn (sub_0 (by rw [hz]; exact sq_0 h)).symm
      obtain ⟨k1, k2⟩ := lnk_ref (av m) z
      rw [← k1, ← k2] at hK
      simp only [cqA, cqC] at hK
      have em : (((-1 : Int)) : Rat) = -1 := rfl
      have zb := zq_bar z
      have zt := zq_times (av m) (barQ z)
      obtain ⟨w, hw⟩ : ∃ w, timesQ (av m) (barQ z) = w := ⟨_, rfl⟩
      rw [hw] at hK zt
      have w1 : rz w.1 ≤ zq w := Nat.le_max_left _ _
      have w2 : rz w.2 ≤ zq w := Nat.le_max_right _ _
      have dk := rz_div (-1) (sqQ z)
      have nn := rz_neg1
      have c4 : al (rcan (barQ z).1, rcan (barQ z).2) = zq (barQ z) := rfl
      simp only [go_sem, ac_linkworkref46_Linkage, he, hx, hs, ho, hq', hd, hb, ht, hm', aC_eq, mk_eta, dmn, hAA, hBB, hcr, hcr2, dA, dC, cenR, acan_mk, av_mk, rv_rcan, c1, c2, c3, c4, dcc, hz, em, hs0, hw, vld_rcan]
      repeat (first | (refine And.intro (by omega) ?_) | (refine And.intro (by assumption) ?_) | (refine And.intro rfl ?_) | (refine And.intro ⟨rfl, by omega⟩ ?_) | (refine And.intro ⟨rfl, by omega, by omega⟩ ?_) | (intro _))
      exact hK
end Go.Abs
end
section
set_option linter.unusedVariables false
set_option linter.unusedSimpArgs false
set_option maxRecDepth 100000
namespace Go.Num
open Go.Abs
theorem chk_s {l : List Ps} {m : List Arc} (h : threeC l ≠ 0) : chkC l m = threeC l := by unfold chkC; rw [if_pos h]
end Go.Num
namespace Go.Abs
open Go.Num
variable {P : Program} {Γ : Nat → Spec}
theorem int_2 : ((2 : Nat) : Int) = 2 := rfl
theorem int_0 : ((0 : Nat) : Int) = 0 := rfl
def lDyads_G (l : List AV) (K : AV → Prop) : Prop :=
 match l with
 | [a, b] => onPs (fun l => onA (fun m => okPs 1048576 l ∧ al m ≤ 1048576 ∧ K (.one (.lit (.bool true)))) b) a
 | _ => False
theorem lDyads_Ge (a b : AV) (K : AV → Prop) : lDyads_G [a, b] K = (onPs (fun l => onA (fun m => okPs 1048576 l ∧ al m ≤ 1048576 ∧ K (.one (.lit (.bool true)))) b) a) := propext Iff.rfl
@[congr] theorem lDyads_Gc {K : AV → Prop} {l l' : List AV} (h : l = l') : lDyads_G l K = lDyads_G l' K := by subst h; rfl
attribute [go_sem] lDyads_Ge
attribute [go_sem ↓] lDyads_Ge
end Go.Abs
end
section
set_option linter.unusedVariables false
set_option linter.unusedSimpArgs false
set_option maxRecDepth 100000
namespace Go.Num
open Go.Abs
abbrev Cp5 := R × R × R × R × R
instance decC5 : DecidableEq Cp5 := fun a b => decidable_of_iff (a.1 = b.1 ∧ a.2.1 = b.2.1 ∧ a.2.2.1 = b.2.2.1 ∧ a.2.2.2.1 = b.2.2.2.1 ∧ a.2.2.2.2 = b.2.2.2.2) ⟨fun ⟨h1, h2, h3, h4, h5⟩ => Prod.ext h1 (Prod.ext h2 (Prod.ext h3 (Prod.ext h4 h5))), fun h => by subst h; exact ⟨rfl, rfl, rfl, rfl, rfl⟩⟩
instance decCp : DecidableEq Cp := fun a b => decidable_of_iff (a.1 = b.1 ∧ a.2.1 = b.2.1 ∧ (a.2.2 : Cp5) = b.2.2) ⟨fun ⟨h1, h2, h3⟩ => Prod.ext h1 (Prod.ext h2 h3), fun h => by subst h; exact ⟨rfl, rfl, rfl⟩⟩
def canC (X : CpQ) : Cp := ((rcan X.1.1, rcan X.1.2), (rcan X.2.1.1, rcan X.2.1.2), rcan X.2.2.1, rcan X.2.2.2.1, rcan X.2.2.2.2.1, rcan X.2.2.2.2.2.1, rcan X.2.2.2.2.2.2)
theorem cl_can (X : CpQ) : cl (canC X) = max (zq X.1) (max (zq X.2.1) (max (rz X.2.2.1) (max (rz X.2.2.2.1) (max (rz X.2.2.2.2.1) (max (rz X.2.2.2.2.2.1) (rz X.2.2.2.2.2.2)))))) := rfl
theorem cl_lnk {A B : List V2} {m n : V2} {c b : Nat} (hA : ∀ i, zq (pt i A) ≤ c) (hB : ∀ i, zq (pt i B) ≤ c) (hm : zq m ≤ b) (hn : zq n ≤ b) : cl (canC (if lnkC A B m n = 0 then lnkQ A B m n else c0)) ≤ 200 * c + 100 * b + 400 := by
 rw [cl_can]
 split
 ·unfold lnkQ
  simp only
  have a0 := zq_ciV (hA 0) (hA 1) (hA 2)
  have b0 := zq_ciV (hB 0) (hB 1) (hB 2)
  have a1 := zq_sub (pt 0 A) (ciV A)
  have b1 := zq_sub (pt 0 B) (ciV B)
  have a2 := rz_sq (subQ (pt 0 A) (ciV A))
  have b2 := rz_sq (subQ (pt 0 B) (ciV B))
  have a3 := hA 0
  have b3 := hB 0
  have z := zq_sub n m
  have s := rz_sq (subQ n m)
  have m1 : rz m.1 ≤ zq m := Nat.le_max_left _ _
  have m2 : rz m.2 ≤ zq m := Nat.le_max_right _ _
  have z1 : rz (subQ n m).1 ≤ zq (subQ n m) := Nat.le_max_left _ _
  have z2 : rz (subQ n m).2 ≤ zq (subQ n m) := Nat.le_max_right _ _
  have k1 := rz_mul m.1 (subQ n m).1
  have k2 := rz_mul m.2 (subQ n m).2
  have k3 := rz_mul m.1 (subQ n m).2
  have k4 := rz_mul m.2 (subQ n m).1
  have t1 := rz_add (m.1 * (subQ n m).1) (m.2 * (subQ n m).2)
  have t2 := rz_sub (m.1 * (subQ n m).2) (m.2 * (subQ n m).1)
  have t3 : rz (-(m.1 * (subQ n m).1 + m.2 * (subQ n m).2)) = rz (m.1 * (subQ n m).1 + m.2 * (subQ n m).2) := rz_neg _
  have d1 := rz_div (-(m.1 * (subQ n m).1 + m.2 * (subQ n m).2)) (sqQ (subQ n m))
  have d2 := rz_div (m.1 * (subQ n m).2 - m.2 * (subQ n m).1) (sqQ (subQ n m))
  simp only [Nat.max_le]
  refine ⟨by omega, by omega, by omega, by omega, by omega, by omega, by omega⟩
 ·have z0 := rz_0
  have zz : zq (0, 0) = 0 := by unfold zq; rw [rz_0]; rfl
  unfold c0
  simp only [Nat.max_le]
  refine ⟨by omega, by omega, by omega, by omega, by omega, by omega, by omega⟩
end Go.Num
namespace Go.Abs
open Go.Num
variable {P : Program} {Γ : Nat → Spec}
def cpC (c : Cp) : List C := [cb c.1.1, cn c.1.1, cd c.1.1, cb c.1.2, cn c.1.2, cd c.1.2, cb c.2.1.1, cn c.2.1.1, cd c.2.1.1, cb c.2.1.2, cn c.2.1.2, cd c.2.1.2, cb c.2.2.1, cn c.2.2.1, cd c.2.2.1, cb c.2.2.2.1, cn c.2.2.2.1, cd c.2.2.2.1, cb c.2.2.2.2.1, cn c.2.2.2.2.1, cd c.2.2.2.2.1, cb c.2.2.2.2.2.1, cn c.2.2.2.2.2.1, cd c.2.2.2.2.2.1, cb c.2.2.2.2.2.2, cn c.2.2.2.2.2.2, cd c.2.2.2.2.2.2]
def cpA (c : Cp) : AV := .agg (cpC c)
theorem r_inj {x y : R} (h1 : cb x = cb y) (h2 : cn x = cn y) (h3 : cd x = cd y) : x = y := rA_inj _ _ (by simp only [rA]; rw [h1, h2, h3])
theorem cpA_inj (x y : Cp) (h : cpA x = cpA y) : x = y := by
 simp only [cpA, cpC, AV.agg.injEq, List.cons.injEq, and_true] at h
 obtain ⟨a1, a2, a3, b1, b2, b3, c1, c2, c3, d1, d2, d3, e1, e2, e3, f1, f2, f3, g1, g2, g3, h1, h2, h3, i1, i2, i3⟩ := h
 exact Prod.ext (Prod.ext (r_inj a1 a2 a3) (r_inj b1 b2 b3)) (Prod.ext (Prod.ext (r_inj c1 c2 c3) (r_inj d1 d2 d3)) (Prod.ext (r_inj e1 e2 e3) (Prod.ext (r_inj f1 f2 f3) (Prod.ext (r_inj g1 g2 g3) (Prod.ext (r_inj h1 h2 h3) (r_inj i1 i2 i3))))))
def onCp (k : Cp → Prop) (a : AV) : Prop := onE cpA (fun c => WLC c ∧ k c) a
@[congr] theorem onCp_cg {k : Cp → Prop} {a a' : AV} (h : a = a') : onCp k a = onCp k a' := by subst h; rfl
theorem onCp_l (k : Cp → Prop) (a1 a2 a3 b1 b2 b3 c1 c2 c3 d1 d2 d3 e1 e2 e3 f1 f2 f3 g1 g2 g3 h1 h2 h3 i1 i2 i3 : C) : onCp k (.agg [a1, a2, a3, b1, b2, b3, c1, c2, c3, d1, d2, d3, e1, e2, e3, f1, f2, f3, g1, g2, g3, h1, h2, h3, i1, i2, i3]) =
  onO (fun a => onO (fun b => onO (fun c => onO (fun d => onO (fun e => onO (fun f => onO (fun g => onO (fun h => onO (fun i => WLC ((a, b), (c, d), e, f, g, h, i) ∧ k ((a, b), (c, d), e, f, g, h, i)) (dR i1 i2 i3)) (dR h1 h2 h3)) (dR g1 g2 g3)) (dR f1 f2 f3)) (dR e1 e2 e3)) (dR d1 d2 d3)) (dR c1 c2 c3)) (dR b1 b2 b3)) (dR a1 a2 a3) := by
 refine propext ⟨fun ⟨t, h, hh⟩ => ?_, fun h => ?_⟩
 ·simp only [cpA, cpC, AV.agg.injEq, List.cons.injEq, and_true] at h
  obtain ⟨rfl, rfl, rfl, rfl, rfl, rfl, rfl, rfl, rfl, rfl, rfl, rfl, rfl, rfl, rfl, rfl, rfl, rfl, rfl, rfl, rfl, rfl, rfl, rfl, rfl, rfl, rfl⟩ := h
  simp only [dR_e, onO_s]; exact hh
 ·obtain ⟨a, ha, q1⟩ := onO_iff.1 h
  obtain ⟨b, hb, q2⟩ := onO_iff.1 q1
  obtain ⟨c, hc, q3⟩ := onO_iff.1 q2
  obtain ⟨d, hd, q4⟩ := onO_iff.1 q3
  obtain ⟨e, he, q5⟩ := onO_iff.1 q4
  obtain ⟨f, hf, q6⟩ := onO_iff.1 q5
  obtain ⟨g, hg, q7⟩ := onO_iff.1 q6
  obtain ⟨hh, hhh, q8⟩ := onO_iff.1 q7
  obtain ⟨i, hi, q9⟩ := onO_iff.1 q8
  obtain ⟨rfl, rfl, rfl⟩ := dR_some.1 ha
  obtain ⟨rfl, rfl, rfl⟩ := dR_some.1 hb
  obtain ⟨rfl, rfl, rfl⟩ := dR_some.1 hc
  obtain ⟨rfl, rfl, rfl⟩ := dR_some.1 hd
  obtain ⟨rfl, rfl, rfl⟩ := dR_some.1 he
  obtain ⟨rfl, rfl, rfl⟩ := dR_some.1 hf
  obtain ⟨rfl, rfl, rfl⟩ := dR_some.1 hg
  obtain ⟨rfl, rfl, rfl⟩ := dR_some.1 hhh
  obtain ⟨rfl, rfl, rfl⟩ := dR_some.1 hi
  exact ⟨((a, b), (c, d), e, f, g, hh, i), rfl, q9⟩
theorem g_onCp {β : Type} {T : Cp → (β → Prop) → Prop} (h : ∀ x, GoodT (T x)) {a : AV} : GoodT fun K => onCp (fun x => T x K) a :=
 g_onE (e := cpA) (T := fun p K => WLC p ∧ T p K) cpA_inj fun p => GoodT.and (c := WLC p) (T := T p) fun _ => h p
attribute [go_sem] onCp_l
attribute [go_sem ↓] onCp_l
def cequal_G (l : List AV) (K : AV → Prop) : Prop :=
 match l with
 | [a, b] => onCp (fun c => onCp (fun d => cl c ≤ 4294967296 ∧ K (.one (.lit (.bool (decide (c = d)))))) b) a
 | _ => False
theorem cequal_Ge (a b : AV) (K : AV → Prop) : cequal_G [a, b] K = (onCp (fun c => onCp (fun d => cl c ≤ 4294967296 ∧ K (.one (.lit (.bool (decide (c = d)))))) b) a) := propext Iff.rfl
@[congr] theorem cequal_Gc {K : AV → Prop} {l l' : List AV} (h : l = l') : cequal_G l K = cequal_G l' K := by subst h; rfl
attribute [go_sem] cequal_Ge
attribute [go_sem ↓] cequal_Ge
theorem cequal_good : Good cequal_G := good_of fun as => by
 unfold cequal_G
 split
 ·exact (g_onCp fun _ => (g_onCp fun _ => (.and fun _ => (.ret _))))
 ·exact .of fun K hk => hk.elim
def lLinkages_G (l : List AV) (K : AV → Prop) : Prop :=
 match l with
 | [a, b, c] => onPs (fun l => onDy (fun d => onA (fun n => okPs 1048576 l ∧ dl d ≤ 1048576 ∧ al n ≤ 1048576 ∧ K (.one (.lit (.bool true)))) c) b) a
 | _ => False
theorem lLinkages_Ge (a b c : AV) (K : AV → Prop) : lLinkages_G [a, b, c] K = (onPs (fun l => onDy (fun d => onA (fun n => okPs 1048576 l ∧ dl d ≤ 1048576 ∧ al n ≤ 1048576 ∧ K (.one (.lit (.bool true)))) c) b) a) := propext Iff.rfl
@[congr] theorem lLinkages_Gc {K : AV → Prop} {l l' : List AV} (h : l = l') : lLinkages_G l K = lLinkages_G l' K := by subst h; rfl
attribute [go_sem] lLinkages_Ge
attribute [go_sem ↓] lLinkages_Ge
theorem lLinkages_good : Good lLinkages_G := good_of fun as => by
 unfold lLinkages_G
 split
 ·exact (g_onPs fun _ => (g_onDy fun _ => (g_onA fun _ => (.and fun _ => (.and fun _ => (.and fun _ => (.ret _)))))))
 ·exact .of fun K hk => hk.elim
def ac_linkworklaw38_Equal (f0 f1 : Nat) : AC := (.seq (.ops false [.u 2 (.box 27 (.t 0)), .u 3 (.box 27 (.t 1)), .m 4 .fa])
 (.fg [2, 3] (.seq (.ops false [.u 5 (.fa 0 (.t 2)), .u 6 (.ld none 6 true (.t 5)), .u 7 (.fa 0 (.t 3)), .u 8 (.ld none 6 true (.t 7)), .u 9 (.call f0 [(.t 6), (.t 8)]), .m 10 (.t 9), .w 11 10 true (.fa 6 (.t 2)), .w 12 10 true (.ld none 6 true (.t 11)), .w 13 10 true (.fa 6 (.t 3)), .w 14 10 true (.ld none 6 true (.t 13)), .w 15 10 true (.call f0 [(.t 12), (.t 14)]), .u 16 (.pick (.t 10) (.t 15) .fa), .m 17 (.t 16), .w 18 17 true (.fa 12 (.t 2)), .w 19 17 true (.ld none 3 true (.t 18)), .w 20 17 true (.fa 15 (.t 2)), .w 21 17 true (.ld none 3 true (.t 20)), .w 22 17 true (.fa 18 (.t 2)), .w 23 17 true (.ld none 3 true (.t 22)), .w 24 17 true (.fa 21 (.t 2)), .w 25 17 true (.ld none 3 true (.t 24)), .w 26 17 true (.fa 24 (.t 2)), .w 27 17 true (.ld none 3 true (.t 26)), .w 28 17 true (.row 3 [[.x 3 (.t 19)], [.x 3 (.t 21)], [.x 3 (.t 23)], [.x 3 (.t 25)], [.x 3 (.t 27)]]), .w 29 17 true (.fa 12 (.t 3)), .w 30 17 true (.ld none 3 true (.t 29)), .w 31 17 true (.fa 15 (.t 3)), .w 32 17 true (.ld none 3 true (.t 31)), .w 33 17 true (.fa 18 (.t 3)), .w 34 17 true (.ld none 3 true (.t 33)), .w 35 17 true (.fa 21 (.t 3)), .w 36 17 true (.ld none 3 true (.t 35)), .w 37 17 true (.fa 24 (.t 3)), .w 38 17 true (.ld none 3 true (.t 37)), .w 39 17 true (.row 3 [[.x 3 (.t 30)], [.x 3 (.t 32)], [.x 3 (.t 34)], [.x 3 (.t 36)], [.x 3 (.t 38)]]), .w 40 17 true (.call f1 [(.t 28), (.t 39)]), .u 41 (.pick (.t 17) (.t 40) .fa), .m 4 (.t 41)])
 .ret)))
def ac_linkworklaw46_ThreeposLinkages (f0 f1 f2 f3 f4 f5 f6 f7 f8 f9 f10 f11 f12 : Nat) : AC := (.seq (.ops false [.u 4 (.box 15 (.t 1)), .u 5 (.box 6 (.t 2)), .m 6 .fa])
 (.fg [0, 4, 5] (.seq (.seq (.ops false [.u 14 (.call f0 []), .u 15 (.un .not (.t 14)), .m 16 (.t 15), .w 17 16 false (.mv (.t 0)), .w 18 16 false (.call f1 [(.t 17)]), .w 19 16 false (.un .not (.t 18)), .u 20 (.pick (.t 16) .tr (.t 19)), .m 21 (.t 20), .w 22 21 false (.ld none 15 true (.t 4)), .w 23 21 false (.call f2 [(.t 22)]), .w 24 21 false (.un .not (.t 23)), .u 25 (.pick (.t 21) .tr (.t 24)), .m 26 (.t 25), .w 27 26 false (.ld none 6 true (.t 5)), .w 28 26 false (.row 6 [[.x 6 (.t 27)]]), .w 29 26 false (.call f3 [(.t 28)]), .w 30 26 false (.un .not (.t 29)), .u 31 (.pick (.t 26) .tr (.t 30))])
 (.fg [0, 4, 5, 31] (.cond (.t 31) (.seq (.ops false [.u 32 (.call f0 []), .m 6 (.t 32)])
 .ret) .skip)))
 (.fg [0, 4, 5] (.seq (.ops false [.m 34 (.t 0), .u 35 (.ld none 15 true (.t 4)), .u 36 (.call f4 [(.t 34), (.t 35)]), .m 33 (.t 36), .u 37 (.ext 0 (.t 33)), .u 38 (.ext 1 (.t 33)), .m 7 (.t 37), .m 8 (.t 38)])
 (.fg [0, 4, 5, 7, 8] (.seq (.ops false [.m 40 (.t 0), .u 41 (.fa 6 (.t 4)), .u 42 (.ld none 6 true (.t 41)), .u 43 (.ld none 6 true (.t 5)), .u 44 (.call f5 [(.t 40), (.t 42), (.t 43)]), .m 39 (.t 44), .u 45 (.ext 0 (.t 39)), .u 46 (.ext 1 (.t 39)), .u 9 (.alloc [(.lit (.bool false)), .emp, .emp, (.lit (.bool false)), .emp, .emp, (.lit (.bool false)), .emp, .emp, (.lit (.bool false)), .emp, .emp, (.lit (.bool false)), .emp, .emp, (.lit (.bool false)), .emp, .emp, (.lit (.bool false)), .emp, .emp, (.lit (.bool false)), .emp, .emp, (.lit (.bool false)), .emp, .emp]), .n (.st none 27 (.t 9) (.t 45)), .m 10 (.t 46)])
 (.fg [0, 4, 5, 7, 8, 9, 10] (.seq (.ops false [.m 47 (.t 0), .u 48 (.call f6 [(.t 47)]), .m 11 (.t 48)])
 (.fg [0, 4, 5, 7, 8, 9, 10, 11] (.seq (.seq (.ops false [.m 49 (.t 11), .u 50 (.bin .eql (.t 49) (.i 0)), .m 51 (.t 50), .w 52 51 false (.mv (.t 11)), .w 53 51 false (.bin .eql (.t 52) (.i 10)), .w 54 51 false (.mv (.t 53)), .w 55 54 true (.mv (.t 0)), .w 56 54 true (.len (.t 55)), .w 57 54 true (.bin .gtr (.t 56) (.i 1)), .w 58 51 false (.pick (.t 54) (.t 57) .fa), .w 59 51 false (.mv (.t 58)), .w 60 59 true (.mv (.t 0)), .w 61 59 true (.len (.t 60)), .w 62 59 true (.bin .lss (.t 61) (.i 6)), .w 63 51 false (.pick (.t 59) (.t 62) .fa), .u 64 (.pick (.t 51) .tr (.t 63))])
 (.fg [0, 4, 5, 7, 8, 9, 10, 11, 64] (.cond (.t 64) (.seq (.ops false [.m 12 (.i 0)])
 (.fg [0, 4, 5, 7, 8, 9, 10, 11, 12] (.seq (.seq (.ops false [.u 65 (.ld none 15 true (.t 4)), .u 66 (.call f7 [(.t 65)]), .u 67 (.un .not (.t 66))])
 (.fg [0, 4, 5, 7, 8, 9, 10, 11, 12, 67] (.cond (.t 67) (.ops false [.m 12 (.i 2)]) .skip)))
 (.fg [0, 4, 5, 7, 8, 9, 10, 11, 12] (.seq (.ops false [.m 68 (.t 8), .u 69 (.call f8 [(.t 68)]), .m 70 (.t 12), .u 71 (.bin .neq (.t 69) (.t 70)), .m 72 (.t 71), .w 73 72 false (.mv (.t 7)), .w 74 72 false (.mv (.t 12)), .w 75 72 false (.bin .eql (.t 74) (.i 0)), .w 76 72 false (.mv (.t 75)), .w 77 76 true (.mv (.t 0)), .w 78 76 true (.ld none 15 true (.t 4)), .w 79 76 true (.call f9 [(.t 77), (.t 78)]), .w 80 72 false (.pick (.t 76) (.t 79) .fa), .w 81 72 false (.binb .neq (.t 73) (.t 80)), .u 82 (.pick (.t 72) .tr (.t 81))])
 (.fg [0, 4, 5, 9, 10, 11, 82] (.cond (.t 82) (.seq (.ops false [.m 6 .fa])
 .ret) .skip))))))) (.seq (.ops false [.m 83 (.t 7), .m 84 (.t 83), .w 85 84 false (.mv (.t 8)), .w 86 84 false (.call f8 [(.t 85)]), .w 87 84 false (.mv (.t 11)), .w 88 84 false (.bin .neq (.t 86) (.t 87)), .u 89 (.pick (.t 84) .tr (.t 88))])
 (.fg [0, 4, 5, 9, 10, 11, 89] (.cond (.t 89) (.seq (.ops false [.m 6 .fa])
 .ret) .skip))))))
 (.fg [0, 4, 5, 9, 10, 11] (.seq (.seq (.ops false [.m 90 (.t 11), .u 91 (.bin .eql (.t 90) (.i 0)), .m 92 (.t 91), .w 93 92 true (.fa 6 (.t 4)), .w 94 92 true (.ld none 6 true (.t 93)), .w 95 92 true (.call f10 [(.t 94)]), .w 96 92 true (.un .not (.t 95)), .w 97 92 true (.mv (.t 96)), .w 98 97 false (.ld none 6 true (.t 5)), .w 99 97 false (.call f10 [(.t 98)]), .w 100 97 false (.un .not (.t 99)), .w 101 92 true (.pick (.t 97) .tr (.t 100)), .u 102 (.pick (.t 92) (.t 101) .fa)])
 (.fg [0, 4, 5, 9, 10, 11, 102] (.cond (.t 102) (.ops false [.m 11 (.i 2)]) .skip)))
 (.fg [0, 4, 5, 9, 10, 11] (.seq (.ops false [.u 13 (.alloc [(.lit (.bool false)), .emp, .emp, (.lit (.bool false)), .emp, .emp, (.lit (.bool false)), .emp, .emp, (.lit (.bool false)), .emp, .emp, (.lit (.bool false)), .emp, .emp, (.lit (.bool false)), .emp, .emp, (.lit (.bool false)), .emp, .emp, (.lit (.bool false)), .emp, .emp, (.lit (.bool false)), .emp, .emp])])
 (.fg [0, 4, 5, 9, 10, 11, 13] (.seq (.seq (.ops false [.m 103 (.t 11), .u 104 (.bin .eql (.t 103) (.i 0))])
 (.fg [0, 4, 5, 9, 10, 11, 13, 104] (.cond (.t 104) (.ops false [.m 106 (.t 0), .u 107 (.fa 6 (.t 4)), .u 108 (.ld none 6 true (.t 107)), .u 109 (.ld none 6 true (.t 5)), .u 110 (.call f11 [(.t 106), (.t 108), (.t 109)]), .m 105 (.t 110), .u 111 (.ext 0 (.t 105)), .u 112 (.ext 1 (.t 105)), .n (.st none 27 (.t 13) (.t 111)), .m 11 (.t 112)]) .skip)))
 (.fg [9, 10, 11, 13] (.seq (.ops false [.m 113 (.t 10), .u 114 (.call f8 [(.t 113)]), .m 115 (.t 11), .u 116 (.bin .eql (.t 114) (.t 115)), .m 117 (.t 116), .w 118 117 true (.ld none 27 true (.t 9)), .w 119 117 true (.ld none 27 true (.t 13)), .w 120 117 true (.call f12 [(.t 118), (.t 119)]), .u 121 (.pick (.t 117) (.t 120) .fa), .m 6 (.t 121)])
 .ret)))))))))))))))))))
theorem cequal_sound (hΓ : Holds P Γ) {f fs fr : Nat} (hs : Γ fs = .dat true lsame_G) (hr : Γ fr = .dat true brats_G) (hc : check P f = some (42, (ac_linkworklaw38_Equal fs fr).strip, [.tmp 4])) : Sound P f (.dat true cequal_G) := by
 refine sound_dat hc cequal_good hΓ (fun args K hcl hfi hG => ?_)
 match args, hG with
 | [a, b], hG =>
  obtain ⟨⟨o, q, x1, x2, x3, x4, x5⟩, rfl, ⟨wo, wq, w1, w2, w3, w4, w5⟩, ⟨o', q', y1, y2, y3, y4, y5⟩, rfl, ⟨wo', wq', v1, v2, v3, v4, v5⟩, hl, hK⟩ := hG
  refine ⟨by simp, ?_⟩
  unfold cl at hl
  simp only [Nat.max_le] at hl
  obtain ⟨l1, l2, l3, l4, l5, l6, l7⟩ := hl
  simp only at wo wq w1 w2 w3 w4 w5 wo' wq' v1 v2 v3 v4 v5
  have hr5 : okRs 4294967296 [x1, x2, x3, x4, x5] := fun x hx => by
   simp only [List.mem_cons, List.not_mem_nil, or_false] at hx
   rcases hx with rfl | rfl | rfl | rfl | rfl
   ·exact ⟨w1, l3⟩
   ·exact ⟨w2, l4⟩
   ·exact ⟨w3, l5⟩
   ·exact ⟨w4, l6⟩
   ·exact ⟨w5, l7⟩
  have e : decide ((o, q, x1, x2, x3, x4, x5) = (o', q', y1, y2, y3, y4, y5)) = (decide (o = o') && (decide (q = q') && decide ([x1, x2, x3, x4, x5] = [y1, y2, y3, y4, y5]))) := by
   rw [← Bool.decide_and, ← Bool.decide_and, decide_eq_decide]; simp only [Prod.mk.injEq, List.cons.injEq, and_true]
  rw [e] at hK
  cases h1 : decide (o = o') with
  | false =>
   rw [h1] at hK
   simp only [go_sem, ac_linkworklaw38_Equal, hs, hr, cpA, cpC, mk_eta, h1]
   repeat (first | (refine And.intro (by omega) ?_) | (refine And.intro (by assumption) ?_) | (refine And.intro rfl ?_) | (refine And.intro ⟨rfl, by omega⟩ ?_) | (refine And.intro ⟨rfl, by omega, by omega⟩ ?_) | (intro _))
   exact hK
  | true =>
   cases h2 : decide (q = q') with
   | false =>
    rw [h1, h2] at hK
    simp only [go_sem, ac_linkworklaw38_Equal, hs, hr, cpA, cpC, mk_eta, h1, h2]
    repeat (first | (refine And.intro (by omega) ?_) | (refine And.intro (by assumption) ?_) | (refine And.intro rfl ?_) | (refine And.intro ⟨rfl, by omega⟩ ?_) | (refine And.intro ⟨rfl, by omega, by omega⟩ ?_) | (intro _))
    exact hK
   | true =>
    rw [h1, h2, Bool.true_and, Bool.true_and] at hK
    simp only [go_sem, ac_linkworklaw38_Equal, hs, hr, cpA, cpC, mk_eta, h1, h2]
    repeat (first | (refine And.intro (by omega) ?_) | (refine And.intro (by assumption) ?_) | (refine And.intro rfl ?_) | (refine And.intro ⟨rfl, by omega⟩ ?_) | (refine And.intro ⟨rfl, by omega, by omega⟩ ?_) | (intro _))
    exact ⟨⟨w1, w2, w3, w4, w5⟩, ⟨v1, v2, v3, v4, v5⟩, hr5, hK⟩
theorem int_10 : ((10 : Nat) : Int) = 10 := rfl
theorem pl_0 {l : List Ps} (h : plchk l = 0) : 2 ≤ l.length ∧ l.length ≤ 5 := by
 unfold plchk at h
 repeat' split at h
 all_goals first | contradiction | omega
theorem three_10 {l : List Ps} (h : plchk l = 0) (h3 : l.length ≠ 3) : threeC l = 10 := by
 unfold threeC; rw [if_neg (by omega), if_neg h3]
theorem three_s {l : List Ps} (h : plchk l ≠ 0) : threeC l = plchk l ∧ ¬ (plchk l = 10 ∧ 1 < l.length) := by
 constructor
 ·unfold threeC; rw [if_pos h]
 ·unfold plchk
  rintro ⟨h1, h2⟩
  rw [if_neg (by omega)] at h1
  repeat' split at h1
  all_goals contradiction
set_option maxHeartbeats 4000000 in
theorem lLinkages_sound (hΓ : Holds P Γ) {f fw fs fd fa fp fl fh rd fn rp rv rk fe tE : Nat} (hw : Γ fw = .dat true awk46_G) (hs : Γ fs = .dat true lshort_G) (hd : Γ fd = .dat true rdshort_G) (ha : Γ fa = .dat true ashort_G) (hp : Γ fp = .dat false (tpasses_G tE)) (hl : Γ fl = .dat false (tlink_G tE)) (hh : Γ fh = .dat true rthree_G) (hrd : Γ rd = .dat true rdyad_G) (hn : Γ fn = .dat true (bnum_G tE)) (hrp : Γ rp = .dat false rpasses_G) (hrv : Γ rv = .dat true pvalid_G) (hrl : Γ rk = .dat false rlink_G) (he : Γ fe = .dat true cequal_G) (hc : check P f = some (122, (ac_linkworklaw46_ThreeposLinkages fw fs fd fa fp fl fh rd fn rp rv rk fe).strip, [.tmp 6])) : Sound P f (.dat true lLinkages_G) := by
 refine sound_dat hc lLinkages_good hΓ (fun args K hcl hfi hG => ?_)
 match args, hG with
 | [a, b, c], hG =>
  obtain ⟨l, rfl, hwl, ⟨o, m, r⟩, rfl, ⟨hwo, hwm, hwr⟩, n, rfl, hwn, hok, hdl, hn', hK⟩ := hG
  refine ⟨by simp, ?_⟩
  simp only at hwo hwm hwr
  have ok1 := okPs_mono hok (by decide : 1048576 ≤ 4294967296)
  have hdl1 : dl (o, m, r) ≤ 4294967296 := by omega
  have wd : WLD (o, m, r) := ⟨hwo, hwm, hwr⟩
  have om1 : okAs 4294967296 [n] := fun z hz => by rw [List.mem_singleton.1 hz]; exact ⟨hwn, by omega⟩
  cases hsl : (decide (l.length ≤ 20) && l.all sP) with
  | false =>
   simp only [go_sem, ac_linkworklaw46_ThreeposLinkages, hw, hs, hsl, aC_eq, mk_eta, dA, dC]
   repeat (first | (refine And.intro (by omega) ?_) | (refine And.intro (by assumption) ?_) | (refine And.intro rfl ?_) | (refine And.intro ⟨rfl, by omega⟩ ?_) | (refine And.intro ⟨rfl, by omega, by omega⟩ ?_) | (intro _))
   exact hK
  | true =>
  cases hsd : (sA o && (sA m && sR 4 r)) with
  | false =>
   simp only [go_sem, ac_linkworklaw46_ThreeposLinkages, hw, hs, hd, hsl, hsd, aC_eq, mk_eta, dA, dC]
   repeat (first | (refine And.intro (by omega) ?_) | (refine And.intro (by assumption) ?_) | (refine And.intro rfl ?_) | (refine And.intro ⟨rfl, by omega⟩ ?_) | (refine And.intro ⟨rfl, by omega, by omega⟩ ?_) | (intro _))
   exact hK
  | true =>
  cases hsm : sA n with
  | false =>
   have hsm' : List.all [n] sA = false := by simp [hsm]
   simp only [go_sem, ac_linkworklaw46_ThreeposLinkages, hw, hs, hd, ha, hsl, hsd, hsm', aC_eq, mk_eta, dA, dC]
   repeat (first | (refine And.intro (by omega) ?_) | (refine And.intro (by assumption) ?_) | (refine And.intro rfl ?_) | (refine And.intro ⟨rfl, by omega⟩ ?_) | (refine And.intro ⟨rfl, by omega, by omega⟩ ?_) | (intro _))
   exact hK
  | true =>
   have hsm' : List.all [n] sA = true := by simp [hsm]
   have hsl2 := hsl
   have hsd2 := hsd
   simp only [Bool.and_eq_true, decide_eq_true_eq] at hsl2 hsd2
   have o2l := short_ok hwl hsl2.2
   have o2n := short_al hsm
   have o2m := short_al hsd2.2.1
   have o2o := short_al hsd2.1
   have o2r := sR_rl hsd2.2.2
   have ok2 := okPs_mono o2l (by decide : 2 ≤ 1000)
   have ok3 := okPs_mono o2l (by decide : 2 ≤ 100000000)
   have m2 : al m ≤ 10000 := by omega
   have m3 : al m ≤ 100000000 := by omega
   have n2 : al n ≤ 10000 := by omega
   have n3 : al n ≤ 100000000 := by omega
   have hdl2 : dl (o, m, r) ≤ 100000 := Nat.max_le.2 ⟨by show al o ≤ _; omega, Nat.max_le.2 ⟨by show al m ≤ _; omega, by show rl r ≤ _; omega⟩⟩
   have n20 : ¬ ((2 : Int) = 0) := by decide
   have n02 : ¬ ((0 : Int) = 2) := by decide
   have hll : l.length ≤ 1000 := by omega
   have wz0 : WLC ((rcan 0, rcan 0), (rcan 0, rcan 0), rcan 0, rcan 0, rcan 0, rcan 0, rcan 0) := ⟨⟨WLR_rcan _, WLR_rcan _⟩, ⟨WLR_rcan _, WLR_rcan _⟩, WLR_rcan _, WLR_rcan _, WLR_rcan _, WLR_rcan _, WLR_rcan _⟩
   have lz0 : cl ((rcan 0, rcan 0), (rcan 0, rcan 0), rcan 0, rcan 0, rcan 0, rcan 0, rcan 0) ≤ 4294967296 := by
    have e := cl_can c0
    have zz : zq (0, 0) = 0 := by unfold zq; rw [rz_0]; rfl
    have z0 := rz_0
    show cl (canC c0) ≤ _
    rw [e]
    unfold c0
    simp only [Nat.max_le]
    exact ⟨by omega, by omega, by omega, by omega, by omega, by omega, by omega⟩
   by_cases h0 : plchk l = 0
   ·obtain ⟨g1, g2⟩ := pl_0 h0
    by_cases hl3 : l.length = 3
    ·have h3 : threeC l = 0 := by unfold threeC; rw [if_neg (by omega), if_pos hl3]
     cases hdv : dvld (o, m, r) with
     | true =>
      have hC : psnC l (o, m, r) = 0 := by unfold psnC; rw [if_neg (by omega), hdv]; rfl
      have hmv : avld m = true := by unfold dvld at hdv; simp only [Bool.and_eq_true] at hdv; exact hdv.2.1
      cases hnv : avld n with
      | false =>
       have hL : lkC l m n = 2 := by
        have e : chkC l [m, n] = 2 := by
         unfold chkC placeC
         rw [if_neg (by omega)]
         simp [hmv, hnv]
        unfold lkC; rw [e]; rfl
       cases hb : psnB l (o, m, r) with
       | true =>
        simp only [go_sem, ac_linkworklaw46_ThreeposLinkages, hw, hs, hd, ha, hp, hl, hh, hrd, hn, hrp, hrv, he, hsl, hsd, hsm', aC_eq, mk_eta, dA, dC, h3, hdv, hC, hmv, hnv, hL, hb, c0, cqA, cqC, int_0, int_2, n20, n02, Bool.true_and, Bool.false_and, Bool.and_true, Bool.and_false]
        repeat (first | (refine And.intro (by omega) ?_) | (refine And.intro (by assumption) ?_) | (refine And.intro rfl ?_) | (refine And.intro ⟨rfl, by omega⟩ ?_) | (refine And.intro ⟨rfl, by omega, by omega⟩ ?_) | (intro _))
        exact hK
       | false =>
        simp only [go_sem, ac_linkworklaw46_ThreeposLinkages, hw, hs, hd, ha, hp, hl, hh, hrd, hn, hrp, hrv, he, hsl, hsd, hsm', aC_eq, mk_eta, dA, dC, h3, hdv, hC, hmv, hnv, hL, hb, c0, cqA, cqC, int_0, int_2, n20, n02, Bool.true_and, Bool.false_and, Bool.and_true, Bool.and_false]
        repeat (first | (refine And.intro (by omega) ?_) | (refine And.intro (by assumption) ?_) | (refine And.intro rfl ?_) | (refine And.intro ⟨rfl, by omega⟩ ?_) | (refine And.intro ⟨rfl, by omega, by omega⟩ ?_) | (intro _))
        exact hK
      | true =>
       have hch : chkC l [m, n] = 0 := by
        unfold chkC placeC
        rw [if_neg (by omega)]
        simp [hmv, hnv]
       have hL : lkC l m n = lnkC (imgs l m) (imgs l n) (av m) (av n) := by unfold lkC; rw [if_neg (by omega)]
       obtain ⟨k, hk⟩ : ∃ k, lnkC (imgs l m) (imgs l n) (av m) (av n) = k := ⟨_, rfl⟩
       have hX := cl_lnk (c := 70) (b := 2) (fun i => zq_pt o2l hwm o2m i) (fun i => zq_pt o2l hwn o2n i) (Nat.le_trans (av_le hwm) o2m) (Nat.le_trans (av_le hwn) o2n)
       obtain ⟨X, hXX⟩ : ∃ X, (if lnkC (imgs l m) (imgs l n) (av m) (av n) = 0 then lnkQ (imgs l m) (imgs l n) (av m) (av n) else c0) = X := ⟨_, rfl⟩
       rw [hXX] at hX
       rw [hk] at hL hXX
       have hX2 := Nat.le_trans hX (by decide : _ ≤ 4294967296)
       have hX3 : cl ((rcan X.1.1, rcan X.1.2), (rcan X.2.1.1, rcan X.2.1.2), rcan X.2.2.1, rcan X.2.2.2.1, rcan X.2.2.2.2.1, rcan X.2.2.2.2.2.1, rcan X.2.2.2.2.2.2) ≤ 4294967296 := hX2
       have wX : WLC ((rcan X.1.1, rcan X.1.2), (rcan X.2.1.1, rcan X.2.1.2), rcan X.2.2.1, rcan X.2.2.2.1, rcan X.2.2.2.2.1, rcan X.2.2.2.2.2.1, rcan X.2.2.2.2.2.2) := ⟨WLA_can _, WLA_can _, WLR_rcan _, WLR_rcan _, WLR_rcan _, WLR_rcan _, WLR_rcan _⟩
       cases hb : psnB l (o, m, r) with
       | true =>
        simp only [go_sem, ac_linkworklaw46_ThreeposLinkages, hw, hs, hd, ha, hp, hl, hh, hrd, hn, hrp, hrv, he, hrl, hsl, hsd, hsm', aC_eq, mk_eta, dA, dC, h3, hdv, hC, hmv, hnv, hk, hXX, hL, hb, cqA, cqC, int_0, int_2, n20, n02, Bool.true_and, Bool.false_and, Bool.and_true, Bool.and_false]
        repeat (first | (refine And.intro (by omega) ?_) | (refine And.intro (by assumption) ?_) | (refine And.intro rfl ?_) | (refine And.intro ⟨rfl, by omega⟩ ?_) | (refine And.intro ⟨rfl, by omega, by omega⟩ ?_) | (intro _))
        exact hK
       | false =>
        simp only [go_sem, ac_linkworklaw46_ThreeposLinkages, hw, hs, hd, ha, hp, hl, hh, hrd, hn, hrp, hrv, he, hrl, hsl, hsd, hsm', aC_eq, mk_eta, dA, dC, h3, hdv, hC, hmv, hnv, hk, hXX, hL, hb, cqA, cqC, int_0, int_2, n20, n02, Bool.true_and, Bool.false_and, Bool.and_true, Bool.and_false]
        repeat (first | (refine And.intro (by omega) ?_) | (refine And.intro (by assumption) ?_) | (refine And.intro rfl ?_) | (refine And.intro ⟨rfl, by omega⟩ ?_) | (refine And.intro ⟨rfl, by omega, by omega⟩ ?_) | (intro _))
        exact hK
     | false =>
      have hC : psnC l (o, m, r) = 2 := by unfold psnC; rw [if_neg (by omega), hdv]; rfl
      have p20 : decide (2 = 0) = false := rfl
      cases hmv : avld m with
      | false =>
       have hL : lkC l m n = 2 := by
        have e : chkC l [m, n] = 2 := by
         unfold chkC placeC
         rw [if_neg (by omega)]
         simp [hmv]
        unfold lkC; rw [e]; rfl
       simp only [go_sem, ac_linkworklaw46_ThreeposLinkages, hw, hs, hd, ha, hp, hl, hh, hrd, hn, hrp, hrv, he, hsl, hsd, hsm', aC_eq, mk_eta, dA, dC, h3, hdv, hC, hmv, p20, hL, c0, cqA, cqC, int_0, int_2, n20, n02, Bool.true_and, Bool.false_and, Bool.and_true, Bool.and_false]
       repeat (first | (refine And.intro (by omega) ?_) | (refine And.intro (by assumption) ?_) | (refine And.intro rfl ?_) | (refine And.intro ⟨rfl, by omega⟩ ?_) | (refine And.intro ⟨rfl, by omega, by omega⟩ ?_) | (intro _))
       exact hK
      | true =>
       cases hnv : avld n with
       | false =>
        have hL : lkC l m n = 2 := by
         have e : chkC l [m, n] = 2 := by
          unfold chkC placeC
          rw [if_neg (by omega)]
          simp [hmv, hnv]
         unfold lkC; rw [e]; rfl
        simp only [go_sem, ac_linkworklaw46_ThreeposLinkages, hw, hs, hd, ha, hp, hl, hh, hrd, hn, hrp, hrv, he, hsl, hsd, hsm', aC_eq, mk_eta, dA, dC, h3, hdv, hC, hmv, hnv, p20, hL, c0, cqA, cqC, int_0, int_2, n20, n02, Bool.true_and, Bool.false_and, Bool.and_true, Bool.and_false]
        repeat (first | (refine And.intro (by omega) ?_) | (refine And.intro (by assumption) ?_) | (refine And.intro rfl ?_) | (refine And.intro ⟨rfl, by omega⟩ ?_) | (refine And.intro ⟨rfl, by omega, by omega⟩ ?_) | (intro _))
        exact hK
       | true =>
        have hch : chkC l [m, n] = 0 := by
         unfold chkC placeC
         rw [if_neg (by omega)]
         simp [hmv, hnv]
        have hL : lkC l m n = lnkC (imgs l m) (imgs l n) (av m) (av n) := by unfold lkC; rw [if_neg (by omega)]
        obtain ⟨k, hk⟩ : ∃ k, lnkC (imgs l m) (imgs l n) (av m) (av n) = k := ⟨_, rfl⟩
        have hX := cl_lnk (c := 70) (b := 2) (fun i => zq_pt o2l hwm o2m i) (fun i => zq_pt o2l hwn o2n i) (Nat.le_trans (av_le hwm) o2m) (Nat.le_trans (av_le hwn) o2n)
        obtain ⟨X, hXX⟩ : ∃ X, (if lnkC (imgs l m) (imgs l n) (av m) (av n) = 0 then lnkQ (imgs l m) (imgs l n) (av m) (av n) else c0) = X := ⟨_, rfl⟩
        rw [hXX] at hX
        rw [hk] at hL hXX
        have hX2 := Nat.le_trans hX (by decide : _ ≤ 4294967296)
        have hX3 : cl ((rcan X.1.1, rcan X.1.2), (rcan X.2.1.1, rcan X.2.1.2), rcan X.2.2.1, rcan X.2.2.2.1, rcan X.2.2.2.2.1, rcan X.2.2.2.2.2.1, rcan X.2.2.2.2.2.2) ≤ 4294967296 := hX2
        have wX : WLC ((rcan X.1.1, rcan X.1.2), (rcan X.2.1.1, rcan X.2.1.2), rcan X.2.2.1, rcan X.2.2.2.1, rcan X.2.2.2.2.1, rcan X.2.2.2.2.2.1, rcan X.2.2.2.2.2.2) := ⟨WLA_can _, WLA_can _, WLR_rcan _, WLR_rcan _, WLR_rcan _, WLR_rcan _, WLR_rcan _⟩
        simp only [go_sem, ac_linkworklaw46_ThreeposLinkages, hw, hs, hd, ha, hp, hl, hh, hrd, hn, hrp, hrv, he, hrl, hsl, hsd, hsm', aC_eq, mk_eta, dA, dC, h3, hdv, hC, hmv, hnv, hk, hXX, p20, hL, cqA, cqC, int_0, int_2, n20, n02, Bool.true_and, Bool.false_and, Bool.and_true, Bool.and_false]
        repeat (first | (refine And.intro (by omega) ?_) | (refine And.intro (by assumption) ?_) | (refine And.intro rfl ?_) | (refine And.intro ⟨rfl, by omega⟩ ?_) | (refine And.intro ⟨rfl, by omega, by omega⟩ ?_) | (intro _))
        exact hK
    ·have h3 := three_10 h0 hl3
     have hL : lkC l m n = 10 := by
      have e : chkC l [m, n] = 10 := by rw [chk_s (by omega), h3]
      unfold lkC; rw [e]; rfl
     have t1 : ¬ ((10 : Int) = 0) := by decide
     have t2 : (1 : Int) < l.length := by omega
     have t3 : (l.length : Int) < 6 := by omega
     cases hdv : dvld (o, m, r) with
     | true =>
      have hC : psnC l (o, m, r) = 0 := by unfold psnC; rw [if_neg (by omega), hdv]; rfl
      cases hb : psnB l (o, m, r) with
      | true =>
       simp only [go_sem, ac_linkworklaw46_ThreeposLinkages, hw, hs, hd, ha, hp, hl, hh, hrd, hn, hrp, hrv, he, hsl, hsd, hsm', aC_eq, mk_eta, dA, dC, h3, hdv, hC, int_10, t1, t2, t3, hL, hb, c0, cqA, cqC, int_0, int_2, n20, n02, Bool.true_and, Bool.false_and, Bool.and_true, Bool.and_false]
       repeat (first | (refine And.intro (by omega) ?_) | (refine And.intro (by assumption) ?_) | (refine And.intro rfl ?_) | (refine And.intro ⟨rfl, by omega⟩ ?_) | (refine And.intro ⟨rfl, by omega, by omega⟩ ?_) | (intro _))
       exact hK
      | false =>
       simp only [go_sem, ac_linkworklaw46_ThreeposLinkages, hw, hs, hd, ha, hp, hl, hh, hrd, hn, hrp, hrv, he, hsl, hsd, hsm', aC_eq, mk_eta, dA, dC, h3, hdv, hC, int_10, t1, t2, t3, hL, hb, c0, cqA, cqC, int_0, int_2, n20, n02, Bool.true_and, Bool.false_and, Bool.and_true, Bool.and_false]
       repeat (first | (refine And.intro (by omega) ?_) | (refine And.intro (by assumption) ?_) | (refine And.intro rfl ?_) | (refine And.intro ⟨rfl, by omega⟩ ?_) | (refine And.intro ⟨rfl, by omega, by omega⟩ ?_) | (intro _))
       exact hK
     | false =>
      have hC : psnC l (o, m, r) = 2 := by unfold psnC; rw [if_neg (by omega), hdv]; rfl
      have p20 : decide (2 = 0) = false := rfl
      simp only [go_sem, ac_linkworklaw46_ThreeposLinkages, hw, hs, hd, ha, hp, hl, hh, hrd, hn, hrp, hrv, he, hsl, hsd, hsm', aC_eq, mk_eta, dA, dC, h3, hdv, hC, int_10, t1, t2, t3, p20, hL, c0, cqA, cqC, int_0, int_2, n20, n02, Bool.true_and, Bool.false_and, Bool.and_true, Bool.and_false]
      repeat (first | (refine And.intro (by omega) ?_) | (refine And.intro (by assumption) ?_) | (refine And.intro rfl ?_) | (refine And.intro ⟨rfl, by omega⟩ ?_) | (refine And.intro ⟨rfl, by omega, by omega⟩ ?_) | (intro _))
      exact hK
   ·obtain ⟨h3, h10⟩ := three_s h0
    have hC : psnC l (o, m, r) = plchk l := by unfold psnC; rw [if_pos h0]
    have hL : lkC l m n = plchk l := by
     have e : chkC l [m, n] = plchk l := by rw [chk_s (by omega), h3]
     unfold lkC; rw [e, if_pos h0]
    have h0' : ¬ ((plchk l : Nat) : Int) = 0 := by omega
    have p0 : decide (plchk l = 0) = false := decide_eq_false h0
    by_cases k10 : plchk l = 10
    ·have k1 : ¬ (1 : Int) < l.length := by intro h; exact h10 ⟨k10, by omega⟩
     have t1 : ¬ ((10 : Int) = 0) := by decide
     have p10 : decide (10 = 0) = false := rfl
     rw [k10] at h3 hC hL
     simp only [go_sem, ac_linkworklaw46_ThreeposLinkages, hw, hs, hd, ha, hp, hl, hh, hrd, hn, hrp, hrv, he, hsl, hsd, hsm', aC_eq, mk_eta, dA, dC, h3, hC, int_10, t1, k1, p10, hL, c0, cqA, cqC, int_0, int_2, n20, n02, Bool.true_and, Bool.false_and, Bool.and_true, Bool.and_false]
     repeat (first | (refine And.intro (by omega) ?_) | (refine And.intro (by assumption) ?_) | (refine And.intro rfl ?_) | (refine And.intro ⟨rfl, by omega⟩ ?_) | (refine And.intro ⟨rfl, by omega, by omega⟩ ?_) | (intro _))
     exact hK
    ·have k10' : ¬ ((plchk l : Nat) : Int) = 10 := by omega
     simp only [go_sem, ac_linkworklaw46_ThreeposLinkages, hw, hs, hd, ha, hp, hl, hh, hrd, hn, hrp, hrv, he, hsl, hsd, hsm', aC_eq, mk_eta, dA, dC, h3, hC, h0', k10', p0, h0, hL, c0, cqA, cqC, int_0, int_2, n20, n02, Bool.true_and, Bool.false_and, Bool.and_true, Bool.and_false]
     repeat (first | (refine And.intro (by omega) ?_) | (refine And.intro (by assumption) ?_) | (refine And.intro rfl ?_) | (refine And.intro ⟨rfl, by omega⟩ ?_) | (refine And.intro ⟨rfl, by omega, by omega⟩ ?_) | (intro _))
     exact hK
end Go.Abs
end
section
set_option linter.unusedVariables false
set_option linter.unusedSimpArgs false
set_option maxRecDepth 100000
namespace Go.Abs
open Go.Num
variable {P : Program} {Γ : Nat → Spec}
def ac_linkworkref01_trim : AC := (.seq (.ops false [.m 2 (.c (.one .emp))])
 (.fg [0] (.seq (.ops false [.m 4 (.c (.one .emp)), .m 5 (.t 0), .u 6 (.app0 1 (.t 4) (.t 5)), .m 3 (.t 6)])
 (.fg [3] (.seq (.block 0 (.loop (.seq (.seq (.ops false [.m 7 (.t 3), .u 8 (.len (.t 7)), .u 9 (.bin .gtr (.t 8) (.i 0)), .m 10 (.t 9), .w 11 10 true (.mv (.t 3)), .w 12 10 true (.mv (.t 3)), .w 13 10 true (.len (.t 12)), .w 14 10 true (.bin .sub (.t 13) (.i 1)), .w 15 10 true (.idx 1 (.t 11) (.t 14)), .w 16 10 true (.ld none 1 false (.t 15)), .w 17 10 true (.bin .eql (.t 16) (.c (.one (.lit (.int .u32 0))))), .u 18 (.pick (.t 10) (.t 17) .fa)])
 (.fg [3, 18] (.cond (.t 18) .skip (.exit 0))))
 (.fg [3] (.block 1 (.ops false [.m 19 (.t 3), .m 20 (.t 3), .u 21 (.len (.t 20)), .u 22 (.bin .sub (.t 21) (.i 1)), .u 23 (.sl 1 (.t 19) none (some (.t 22))), .m 3 (.t 23)]))))))
 (.fg [3] (.seq (.ops false [.m 24 (.t 3), .m 2 (.t 24)])
 .ret)))))))
def ac_linkworkref01_plus (f0 f1 : Nat) : AC := (.seq (.ops false [.m 4 (.c (.one .emp))])
 (.fg [0, 1] (.seq (.ops false [.m 5 (.c (.one .emp))])
 (.fg [0, 1, 5] (.seq (.ops false [.m 6 (.c (.one (.lit (.int .u64 0))))])
 (.fg [0, 1, 5, 6] (.seq (.seq (.ops false [.m 9 (.t 0), .u 10 (.len (.t 9)), .m 11 (.t 1), .u 12 (.len (.t 11)), .u 13 (.max [(.t 10), (.t 12)]), .u 14 (.bin .add (.t 13) (.i 1)), .m 15 (.i 0)])
 (.fg [0, 1, 5, 6, 14, 15] (.block 0 (.loop (.seq (.ops false [.u 16 (.bin .lss (.t 15) (.t 14))])
 (.fg [0, 1, 5, 6, 14, 15, 16] (.seq (.cond (.t 16) .skip (.exit 0))
 (.fg [0, 1, 5, 6, 14, 15] (.seq (.block 1 (.seq (.ops false [.m 17 (.t 15), .m 7 (.t 17)])
 (.fg [0, 1, 5, 6, 7, 14, 15] (.seq (.ops false [.m 18 (.t 0), .m 19 (.t 7), .u 20 (.call f0 [(.t 18), (.t 19)]), .m 21 (.t 1), .m 22 (.t 7), .u 23 (.call f0 [(.t 21), (.t 22)]), .u 24 (.bin .add (.t 20) (.t 23)), .m 25 (.t 6), .u 26 (.bin .add (.t 24) (.t 25)), .m 8 (.t 26)])
 (.fg [0, 1, 5, 8, 14, 15] (.ops false [.m 27 (.t 5), .m 28 (.t 8), .u 29 (.conv .u32 (.t 28)), .u 30 (.row 1 [[.x 1 (.t 29)]]), .u 31 (.app 1 (.t 27) (.t 30)), .m 32 (.t 8), .u 33 (.bin .shr (.t 32) (.c (.one (.lit (.int .u64 32))))), .m 5 (.t 31), .m 6 (.t 33)]))))))
 (.fg [0, 1, 5, 6, 14, 15] (.ops false [.u 34 (.bin .add (.t 15) (.i 1)), .m 15 (.t 34)])))))))))))
 (.fg [5] (.seq (.ops false [.m 35 (.t 5), .u 36 (.callf f1 [(.t 35)]), .m 4 (.t 36)])
 .ret)))))))))
def ac_linkworkref01_minus (f0 f1 : Nat) : AC := (.seq (.ops false [.m 4 (.c (.one .emp))])
 (.fg [0, 1] (.seq (.ops false [.m 5 (.c (.one .emp))])
 (.fg [0, 1, 5] (.seq (.ops false [.m 6 (.c (.one (.lit (.int .u64 0))))])
 (.fg [0, 1, 5, 6] (.seq (.seq (.ops false [.m 9 (.t 0), .u 10 (.len (.t 9)), .m 11 (.i 0)])
 (.fg [0, 1, 5, 6, 10, 11] (.block 0 (.loop (.seq (.ops false [.u 12 (.bin .lss (.t 11) (.t 10))])
 (.fg [0, 1, 5, 6, 10, 11, 12] (.seq (.cond (.t 12) .skip (.exit 0))
 (.fg [0, 1, 5, 6, 10, 11] (.seq (.block 1 (.seq (.ops false [.m 13 (.t 11), .m 7 (.t 13)])
 (.fg [0, 1, 5, 6, 7, 10, 11] (.seq (.ops false [.m 14 (.t 0), .m 15 (.t 7), .u 16 (.call f0 [(.t 14), (.t 15)]), .u 17 (.bin .add (.c (.one (.lit (.int .u64 4294967296)))) (.t 16)), .m 18 (.t 1), .m 19 (.t 7), .u 20 (.call f0 [(.t 18), (.t 19)]), .u 21 (.bin .sub (.t 17) (.t 20)), .m 22 (.t 6), .u 23 (.bin .sub (.t 21) (.t 22)), .m 8 (.t 23)])
 (.fg [0, 1, 5, 8, 10, 11] (.ops false [.m 24 (.t 5), .m 25 (.t 8), .u 26 (.conv .u32 (.t 25)), .u 27 (.row 1 [[.x 1 (.t 26)]]), .u 28 (.app 1 (.t 24) (.t 27)), .m 29 (.t 8), .u 30 (.bin .shr (.t 29) (.c (.one (.lit (.int .u64 32))))), .u 31 (.bin .sub (.c (.one (.lit (.int .u64 1)))) (.t 30)), .m 5 (.t 28), .m 6 (.t 31)]))))))
 (.fg [0, 1, 5, 6, 10, 11] (.ops false [.u 32 (.bin .add (.t 11) (.i 1)), .m 11 (.t 32)])))))))))))
 (.fg [5] (.seq (.ops false [.m 33 (.t 5), .u 34 (.callf f1 [(.t 33)]), .m 4 (.t 34)])
 .ret)))))))))
def ac_linkworkref01_compare (f0 : Nat) : AC := (.seq (.ops false [.m 4 (.i 0)])
 (.fg [0, 1] (.seq (.seq (.ops false [.m 6 (.t 0), .u 7 (.len (.t 6)), .m 8 (.t 1), .u 9 (.len (.t 8)), .u 10 (.max [(.t 7), (.t 9)]), .u 11 (.bin .sub (.t 10) (.i 1)), .m 5 (.t 11)])
 (.fg [0, 1, 5] (.block 0 (.loop (.seq (.seq (.ops false [.m 12 (.t 5), .u 13 (.bin .geq (.t 12) (.i 0))])
 (.fg [0, 1, 5, 13] (.cond (.t 13) .skip (.exit 0))))
 (.fg [0, 1, 5] (.seq (.block 1 (.seq (.ops false [.m 16 (.t 0), .m 17 (.t 5), .u 18 (.call f0 [(.t 16), (.t 17)]), .m 19 (.t 1), .m 20 (.t 5), .u 21 (.call f0 [(.t 19), (.t 20)]), .u 22 (.bin .neq (.t 18) (.t 21))])
 (.fg [0, 1, 5, 22] (.cond (.t 22) (.seq (.seq (.ops false [.m 23 (.t 0), .m 24 (.t 5), .u 25 (.call f0 [(.t 23), (.t 24)]), .m 26 (.t 1), .m 27 (.t 5), .u 28 (.call f0 [(.t 26), (.t 27)]), .u 29 (.bin .lss (.t 25) (.t 28))])
 (.fg [29] (.cond (.t 29) (.seq (.ops false [.m 4 (.i (-1))])
 .ret) .skip)))
 (.fg [] (.seq (.ops false [.m 4 (.i 1)])
 .ret))) .skip))))
 (.fg [0, 1, 5] (.ops false [.m 14 (.t 5), .u 15 (.bin .sub (.t 14) (.i 1)), .m 5 (.t 15)])))))))))
 (.fg [] (.seq (.ops false [.m 4 (.i 0)])
 .ret)))))
def ac_linkworkref01_bits : AC := (.seq (.ops false [.m 2 (.i 0)])
 (.fg [0] (.seq (.seq (.ops false [.m 5 (.t 0), .u 6 (.len (.t 5)), .u 7 (.bin .eql (.t 6) (.i 0))])
 (.fg [0, 7] (.cond (.t 7) (.seq (.ops false [.m 2 (.i 0)])
 .ret) .skip)))
 (.fg [0] (.seq (.ops false [.m 8 (.t 0), .u 9 (.len (.t 8)), .u 10 (.bin .sub (.t 9) (.i 1)), .u 11 (.bin .mul (.i 32) (.t 10)), .m 3 (.t 11)])
 (.fg [0, 3] (.seq (.seq (.ops false [.m 12 (.t 0), .m 13 (.t 0), .u 14 (.len (.t 13)), .u 15 (.bin .sub (.t 14) (.i 1)), .u 16 (.idx 1 (.t 12) (.t 15)), .u 17 (.ld none 1 false (.t 16)), .m 4 (.t 17)])
 (.fg [3, 4] (.block 0 (.loop (.seq (.seq (.ops false [.m 18 (.t 4), .u 19 (.bin .gtr (.t 18) (.c (.one (.lit (.int .u32 0)))))])
 (.fg [3, 4, 19] (.cond (.t 19) .skip (.exit 0))))
 (.fg [3, 4] (.seq (.block 1 (.ops false [.m 22 (.t 3), .u 23 (.bin .add (.t 22) (.i 1)), .m 3 (.t 23)]))
 (.fg [3, 4] (.ops false [.m 20 (.t 4), .u 21 (.bin .shr (.t 20) (.c (.one (.lit (.int .u64 1))))), .m 4 (.t 21)])))))))))
 (.fg [3] (.seq (.ops false [.m 24 (.t 3), .m 2 (.t 24)])
 .ret)))))))))
def ac_linkworkref01_times (f0 : Nat) : AC := (.seq (.ops false [.m 4 (.c (.one .emp))])
 (.fg [0, 1] (.seq (.ops false [.m 10 (.t 0), .u 11 (.len (.t 10)), .m 12 (.t 1), .u 13 (.len (.t 12)), .u 14 (.bin .add (.t 11) (.t 13)), .u 15 (.mk 1 [(.lit (.int .u32 0))] (.t 14) (.t 14)), .m 5 (.t 15)])
 (.fg [0, 1, 5] (.seq (.seq (.ops false [.m 16 (.t 0), .u 17 (.len (.t 16)), .m 18 (.i 0)])
 (.fg [0, 1, 5, 17, 18] (.block 0 (.loop (.seq (.ops false [.u 19 (.bin .lss (.t 18) (.t 17))])
 (.fg [0, 1, 5, 17, 18, 19] (.seq (.cond (.t 19) .skip (.exit 0))
 (.fg [0, 1, 5, 17, 18] (.seq (.block 1 (.seq (.ops false [.m 20 (.t 18), .m 6 (.t 20)])
 (.fg [0, 1, 5, 6, 17, 18] (.seq (.ops false [.m 7 (.c (.one (.lit (.int .u64 0))))])
 (.fg [0, 1, 5, 6, 7, 17, 18] (.seq (.seq (.ops false [.m 21 (.t 1), .u 22 (.len (.t 21)), .m 23 (.i 0)])
 (.fg [0, 1, 5, 6, 7, 17, 18, 22, 23] (.block 2 (.loop (.seq (.ops false [.u 24 (.bin .lss (.t 23) (.t 22))])
 (.fg [0, 1, 5, 6, 7, 17, 18, 22, 23, 24] (.seq (.cond (.t 24) .skip (.exit 2))
 (.fg [0, 1, 5, 6, 7, 17, 18, 22, 23] (.seq (.block 3 (.seq (.ops false [.m 25 (.t 23), .m 8 (.t 25)])
 (.fg [0, 1, 5, 6, 7, 8, 17, 18, 22, 23] (.seq (.ops true [.m 26 (.t 0), .m 27 (.t 6), .u 28 (.idx 1 (.t 26) (.t 27)), .u 29 (.ld none 1 false (.t 28)), .u 30 (.conv .u64 (.t 29)), .m 31 (.t 1), .m 32 (.t 8), .u 33 (.idx 1 (.t 31) (.t 32)), .u 34 (.ld none 1 false (.t 33)), .u 35 (.conv .u64 (.t 34)), .u 36 (.bin .mul (.t 30) (.t 35)), .m 37 (.t 5), .m 38 (.t 6), .m 39 (.t 8), .u 40 (.bin .add (.t 38) (.t 39)), .u 41 (.idx 1 (.t 37) (.t 40)), .u 42 (.ld none 1 false (.t 41)), .u 43 (.conv .u64 (.t 42)), .u 44 (.bin .add (.t 36) (.t 43)), .m 45 (.t 7), .u 46 (.bin .add (.t 44) (.t 45)), .m 9 (.t 46)])
 (.fg [0, 1, 5, 6, 8, 9, 17, 18, 22, 23] (.ops false [.m 47 (.t 5), .m 48 (.t 6), .m 49 (.t 8), .u 50 (.bin .add (.t 48) (.t 49)), .m 51 (.t 9), .u 52 (.conv .u32 (.t 51)), .m 53 (.t 9), .u 54 (.bin .shr (.t 53) (.c (.one (.lit (.int .u64 32))))), .u 55 (.idx 1 (.t 47) (.t 50)), .n (.st none 1 (.t 55) (.t 52)), .m 7 (.t 54)]))))))
 (.fg [0, 1, 5, 6, 7, 17, 18, 22, 23] (.ops false [.u 56 (.bin .add (.t 23) (.i 1)), .m 23 (.t 56)])))))))))))
 (.fg [0, 1, 5, 6, 7, 17, 18] (.ops false [.m 57 (.t 5), .m 58 (.t 6), .m 59 (.t 1), .u 60 (.len (.t 59)), .u 61 (.bin .add (.t 58) (.t 60)), .m 62 (.t 7), .u 63 (.conv .u32 (.t 62)), .u 64 (.idx 1 (.t 57) (.t 61)), .n (.st none 1 (.t 64) (.t 63))]))))))))
 (.fg [0, 1, 5, 17, 18] (.ops false [.u 65 (.bin .add (.t 18) (.i 1)), .m 18 (.t 65)])))))))))))
 (.fg [5] (.seq (.ops false [.m 66 (.t 5), .u 67 (.callf f0 [(.t 66)]), .m 4 (.t 67)])
 .ret)))))))
theorem tr01_sound (hΓ : Holds P Γ) {f : Nat} (hc : check P f = some (25, ac_linkworkref01_trim.strip, [.tmp 2])) : Sound P f (.fresh 1 tr01_G) := by
 refine sound_fresh hc tr01_good hΓ (fun args K hcl hfi hG => ?_)
 match args, hG with
 | [a], hG =>
  obtain ⟨l, ha, hl, hlen, hK⟩ := hG
  refine ⟨by simp, ?_⟩
  rcases ha with rfl | rfl | ⟨rfl, h0⟩
  ·simp only [go_sem, ac_linkworkref01_trim, ws]
   refine ⟨hlen, ?_⟩
   refine wpA_loop (fun n : Nat => ⟨mkV [(3, .one (.own 6 1 1 0 n))], mkH [(6, ⟨1, some ⟨l.map wc, 1, true⟩⟩)]⟩) (fun n => n ≤ l.length ∧ val (l.take n) = val l) id l.length ?_ ?_ ?_
   ·first | exact weak_lit (by simp [okS, okV, okC, okL, okH, okB, okE, mkV_cons, mkV_nil, mkH_cons, mkH_nil, wsA, ws]) (okH_1 rfl) | (subst h0; exact weak_lit (by simp [okS, okV, okC, okL, okH, okB, okE, mkV_cons, mkV_nil, mkH_cons, mkH_nil, wsA, ws]) (okH_1 (l := []) rfl))
   ·simp
   ·rintro n ⟨hn, ht⟩
    simp only [go_sem]
    refine fun hm => ⟨fun h => ?_, fun h => ?_⟩
    ·rw [show ((n : Int) - 1).toNat = n - 1 by omega]
     refine fun _ => ⟨by omega, by omega, by omega, fun h0 => fun _ => ⟨by omega, by omega, by omega, n - 1, weak_lit (by simp [okS, okV, okC, okL, okH, okB, okE, mkV_cons, mkV_nil, mkH_cons, mkH_nil, wsA, ws]) (okH_1 rfl), ⟨by omega, ?_⟩, ?_⟩, fun h0 => ?_⟩
     ·have := take_succ l (n - 1)
      rw [show n - 1 + 1 = n by omega, h0, Nat.mul_zero, Nat.add_zero] at this
      rw [← this]; exact ht
     ·simp only [id]; omega
     ·have := digs_val (WL_take hl n) (NZ_take h hn h0)
      rw [ht] at this
      rw [this] at hK
      exact ⟨hn, hK⟩
    ·have h1 : n = 0 := by omega
     subst h1
     have : val l = 0 := by rw [← ht]; simp [val]
     rw [this, digs_zero] at hK
     exact ⟨by omega, hK⟩
  ·simp only [go_sem, ac_linkworkref01_trim, ws]
   refine ⟨hlen, ?_⟩
   refine wpA_loop (fun n : Nat => ⟨mkV [(3, .one (.own 6 1 1 0 n))], mkH [(6, ⟨1, some ⟨l.map wc, 1, true⟩⟩)]⟩) (fun n => n ≤ l.length ∧ val (l.take n) = val l) id l.length ?_ ?_ ?_
   ·first | exact weak_lit (by simp [okS, okV, okC, okL, okH, okB, okE, mkV_cons, mkV_nil, mkH_cons, mkH_nil, wsA, ws]) (okH_1 rfl) | (subst h0; exact weak_lit (by simp [okS, okV, okC, okL, okH, okB, okE, mkV_cons, mkV_nil, mkH_cons, mkH_nil, wsA, ws]) (okH_1 (l := []) rfl))
   ·simp
   ·rintro n ⟨hn, ht⟩
    simp only [go_sem]
    refine fun hm => ⟨fun h => ?_, fun h => ?_⟩
    ·rw [show ((n : Int) - 1).toNat = n - 1 by omega]
     refine fun _ => ⟨by omega, by omega, by omega, fun h0 => fun _ => ⟨by omega, by omega, by omega, n - 1, weak_lit (by simp [okS, okV, okC, okL, okH, okB, okE, mkV_cons, mkV_nil, mkH_cons, mkH_nil, wsA, ws]) (okH_1 rfl), ⟨by omega, ?_⟩, ?_⟩, fun h0 => ?_⟩
     ·have := take_succ l (n - 1)
      rw [show n - 1 + 1 = n by omega, h0, Nat.mul_zero, Nat.add_zero] at this
      rw [← this]; exact ht
     ·simp only [id]; omega
     ·have := digs_val (WL_take hl n) (NZ_take h hn h0)
      rw [ht] at this
      rw [this] at hK
      exact ⟨hn, hK⟩
    ·have h1 : n = 0 := by omega
     subst h1
     have : val l = 0 := by rw [← ht]; simp [val]
     rw [this, digs_zero] at hK
     exact ⟨by omega, hK⟩
  ·simp only [go_sem, ac_linkworkref01_trim, ws]
   refine ⟨by simp, ?_⟩
   refine wpA_loop (fun n : Nat => ⟨mkV [(3, .one (.own 6 1 1 0 n))], mkH [(6, ⟨1, some ⟨l.map wc, 1, true⟩⟩)]⟩) (fun n => n ≤ l.length ∧ val (l.take n) = val l) id l.length ?_ ?_ ?_
   ·first | exact weak_lit (by simp [okS, okV, okC, okL, okH, okB, okE, mkV_cons, mkV_nil, mkH_cons, mkH_nil, wsA, ws]) (okH_1 rfl) | (subst h0; exact weak_lit (by simp [okS, okV, okC, okL, okH, okB, okE, mkV_cons, mkV_nil, mkH_cons, mkH_nil, wsA, ws]) (okH_1 (l := []) rfl))
   ·simp
   ·rintro n ⟨hn, ht⟩
    simp only [go_sem]
    refine fun hm => ⟨fun h => ?_, fun h => ?_⟩
    ·rw [show ((n : Int) - 1).toNat = n - 1 by omega]
     refine fun _ => ⟨by omega, by omega, by omega, fun h0 => fun _ => ⟨by omega, by omega, by omega, n - 1, weak_lit (by simp [okS, okV, okC, okL, okH, okB, okE, mkV_cons, mkV_nil, mkH_cons, mkH_nil, wsA, ws]) (okH_1 rfl), ⟨by omega, ?_⟩, ?_⟩, fun h0 => ?_⟩
     ·have := take_succ l (n - 1)
      rw [show n - 1 + 1 = n by omega, h0, Nat.mul_zero, Nat.add_zero] at this
      rw [← this]; exact ht
     ·simp only [id]; omega
     ·have := digs_val (WL_take hl n) (NZ_take h hn h0)
      rw [ht] at this
      rw [this] at hK
      exact ⟨hn, hK⟩
    ·have h1 : n = 0 := by omega
     subst h1
     have : val l = 0 := by rw [← ht]; simp [val]
     rw [this, digs_zero] at hK
     exact ⟨by omega, hK⟩
theorem plus01_sound (hΓ : Holds P Γ) {f fw ft : Nat} (hw : Γ fw = .dat true word_G) (ht : Γ ft = .fresh 1 tr01_G) (hc : check P f = some (37, (ac_linkworkref01_plus fw ft).strip, [.tmp 4])) : Sound P f (.dat false plus_G) := by
 refine sound_dat hc plus_good hΓ (fun args K hcl hfi hG => ?_)
 match args, hG with
 | [a, b], hG =>
  obtain ⟨x, rfl, hx, y, rfl, hy, hxl, hyl, hK⟩ := hG
  refine ⟨by simp, ?_⟩
  simp only [go_sem, ac_linkworkref01_plus, hw, ht]
  intro h1 h2
  refine ⟨by omega, ?_⟩
  generalize hN : max x.length y.length + 1 = N
  refine wpA_loop (fun p : List Nat × Nat => match p.1 with
    | [] => ⟨mkV [(0, wsA x), (1, wsA y), (5, .one .emp), (6, .one (.lit (.int .u64 p.2))), (14, .one (.lit (.int .i64 N))), (15, .one (.lit (.int .i64 0)))], mkH []⟩
    | a :: r => ⟨mkV [(0, wsA x), (1, wsA y), (5, .one (.own 31 1 1 0 (r.length + 1))), (6, .one (.lit (.int .u64 p.2))), (14, .one (.lit (.int .i64 N))), (15, .one (.lit (.int .i64 (r.length + 1 : Nat))))], mkH [(31, ⟨1, some ⟨(a :: r).map wc, 1, true⟩⟩)]⟩)
   (fun p => p.1.length ≤ N ∧ WL p.1 ∧ p.2 ≤ 1 ∧ val p.1 + 4294967296 ^ p.1.length * p.2 = val (x.take p.1.length) + val (y.take p.1.length)) (fun p => N - p.1.length) ([], 0) ?_ ?_ ?_
  ·exact weak_lit (by simp [okS, okV, okC, okL, okH, okB, okE, mkV_cons, mkV_nil, mkH_cons, mkH_nil, wsA, ws]) trivial
  ·simp [WL_nil, val]
  ·rintro ⟨o, c⟩ ⟨hoN, ho, hc1, hval⟩
   simp only at hoN ho hc1 hval
   cases o with
   | nil =>
    simp only [go_sem, hw, ht]
    refine ⟨fun hlt => ?_, fun hge => by omega⟩
    have g1 := WL_getD hx 0
    have g2 := WL_getD hy 0
    rw [Nat.mod_eq_of_lt (show x.getD 0 0 + y.getD 0 0 < 18446744073709551616 by omega), Nat.mod_eq_of_lt (show x.getD 0 0 + y.getD 0 0 + c < 18446744073709551616 by omega)]
    generalize hs : x.getD 0 0 + y.getD 0 0 + c = s
    refine ⟨hx, by omega, hy, by omega, by simp, by decide, by decide, ([s % 4294967296], s / 4294967296), weak_lit (by simp [okS, okV, okC, okL, okH, okB, okE, mkV_cons, mkV_nil, mkH_cons, mkH_nil, wsA, ws]) (okH_1 (l := [s % 4294967296]) rfl), ⟨by simp; omega, WL_cons.2 ⟨Nat.mod_lt _ (by omega), WL_nil⟩, by simp only; omega, ?_⟩, by simp; omega⟩
    have t1 := take_succ x 0
    have t2 := take_succ y 0
    simp only [List.length_cons, List.length_nil, Nat.zero_add, List.take_zero, val_nil, val_cons, Nat.pow_zero, Nat.pow_one, Nat.mul_zero] at t1 t2 hval ⊢
    omega
   | cons a r =>
    simp only [go_sem, hw, ht]
    refine ⟨fun hlt => ?_, fun hge => ?_⟩
    ·have g1 := WL_getD hx (r.length + 1)
     have g2 := WL_getD hy (r.length + 1)
     rw [Nat.mod_eq_of_lt (show x.getD (r.length + 1) 0 + y.getD (r.length + 1) 0 < 18446744073709551616 by omega), Nat.mod_eq_of_lt (show x.getD (r.length + 1) 0 + y.getD (r.length + 1) 0 + c < 18446744073709551616 by omega)]
     generalize hs : x.getD (r.length + 1) 0 + y.getD (r.length + 1) 0 + c = s
     refine ⟨hx, hy, by simp, by omega, by decide, by omega, (a :: (r ++ [s % 4294967296]), s / 4294967296), weak_lit (by simp [okS, okV, okC, okL, okH, okB, okE, mkV_cons, mkV_nil, mkH_cons, mkH_nil, wsA, ws]) (okH_1' (l' := a :: (r ++ [s % 4294967296])) (by simp [wc])), ⟨by simp; omega, ?_, by simp only; omega, ?_⟩, by simp; omega⟩
     ·exact WL_append (a := a :: r) |>.2 ⟨ho, WL_cons.2 ⟨Nat.mod_lt _ (by omega), WL_nil⟩⟩
     ·have t1 := take_succ x (r.length + 1)
      have t2 := take_succ y (r.length + 1)
      have e : a :: (r ++ [s % 4294967296]) = (a :: r) ++ [s % 4294967296] := rfl
      simp only [e, List.length_append, List.length_cons, List.length_nil, Nat.zero_add, val_append, t1, t2]
      simp only [List.length_cons] at hval
      rw [show val [s % 4294967296] = s % 4294967296 from by simp [val], Nat.pow_succ 4294967296 (r.length + 1)]
      exact plus_aux hval (by rw [Nat.mod_add_div, hs])
    ·have e : r.length + 1 = N := by simp only [List.length_cons] at hoN; omega
     have hv : val (a :: r) = val x + val y := by
      rw [List.length_cons, e, take_all (by omega), take_all (by omega)] at hval
      exact sum_fits hx hy (by omega) (by omega) (by omega) hval
     refine (onWx_e _ (a :: r)).mpr ⟨ho, by simp only [List.length_cons]; omega, ?_⟩
     rw [hv]; exact hK
theorem minus01_sound (hΓ : Holds P Γ) {f fw ft : Nat} (hw : Γ fw = .dat true word_G) (ht : Γ ft = .fresh 1 tr01_G) (hc : check P f = some (35, (ac_linkworkref01_minus fw ft).strip, [.tmp 4])) : Sound P f (.dat false less_G) := by
 refine sound_dat hc less_good hΓ (fun args K hcl hfi hG => ?_)
 match args, hG with
 | [a, b], hG =>
  obtain ⟨x, rfl, hx, y, rfl, hy, hxl, hle, hK⟩ := hG
  refine ⟨by simp, ?_⟩
  simp only [go_sem, ac_linkworkref01_minus, hw, ht]
  intro h1
  generalize hN : x.length = N at *
  refine wpA_loop (fun p : List Nat × Nat => match p.1 with
    | [] => ⟨mkV [(0, wsA x), (1, wsA y), (5, .one .emp), (6, .one (.lit (.int .u64 p.2))), (10, .one (.lit (.int .i64 N))), (11, .one (.lit (.int .i64 0)))], mkH []⟩
    | a :: r => ⟨mkV [(0, wsA x), (1, wsA y), (5, .one (.own 28 1 1 0 (r.length + 1))), (6, .one (.lit (.int .u64 p.2))), (10, .one (.lit (.int .i64 N))), (11, .one (.lit (.int .i64 (r.length + 1 : Nat))))], mkH [(28, ⟨1, some ⟨(a :: r).map wc, 1, true⟩⟩)]⟩)
   (fun p => p.1.length ≤ N ∧ WL p.1 ∧ p.2 ≤ 1 ∧ val p.1 + val (y.take p.1.length) = val (x.take p.1.length) + 4294967296 ^ p.1.length * p.2) (fun p => N - p.1.length) ([], 0) ?_ ?_ ?_
  ·exact weak_lit (by simp [okS, okV, okC, okL, okH, okB, okE, mkV_cons, mkV_nil, mkH_cons, mkH_nil, wsA, ws]) trivial
  ·simp [WL_nil, val]
  ·rintro ⟨o, c⟩ ⟨hoN, ho, hc1, hval⟩
   simp only at hoN ho hc1 hval
   cases o with
   | nil =>
    have g1 := WL_getD hx 0
    have g2 := WL_getD hy 0
    obtain ⟨s, e1, e2, e3, e4⟩ := minus_e g1 g2 hc1
    simp only [go_sem, hw, ht, e1, e2]
    refine ⟨fun hlt => ?_, fun hge => ?_⟩
    ·refine ⟨hx, by omega, hy, by omega, by simp, ⟨by omega, by decide⟩, by decide, ([s % 4294967296], 1 - s / 4294967296), weak_lit (by simp [okS, okV, okC, okL, okH, okB, okE, mkV_cons, mkV_nil, mkH_cons, mkH_nil, wsA, ws, e2]) (okH_1' (l' := [s % 4294967296]) (by simp [wc])), ⟨by simp; omega, WL_cons.2 ⟨Nat.mod_lt _ (by omega), WL_nil⟩, e4, ?_⟩, by simp; omega⟩
     have t1 := take_succ x 0
     have t2 := take_succ y 0
     simp only [List.length_cons, List.length_nil, Nat.zero_add, List.take_zero, val_nil, val_cons, Nat.pow_zero, Nat.pow_one, Nat.mul_zero] at t1 t2 hval ⊢
     omega
    ·have hx0 : x = [] := List.eq_nil_of_length_eq_zero (by omega)
     have : val x - val y = val [] := by rw [hx0]; simp [val]
     rw [← this]; exact hK
   | cons a r =>
    have g1 := WL_getD hx (r.length + 1)
    have g2 := WL_getD hy (r.length + 1)
    obtain ⟨s, e1, e2, e3, e4⟩ := minus_e g1 g2 hc1
    simp only [go_sem, hw, ht, e1, e2]
    refine ⟨fun hlt => ?_, fun hge => ?_⟩
    ·refine ⟨hx, hy, by simp, by omega, ⟨by omega, by decide⟩, by omega, (a :: (r ++ [s % 4294967296]), 1 - s / 4294967296), weak_lit (by simp [okS, okV, okC, okL, okH, okB, okE, mkV_cons, mkV_nil, mkH_cons, mkH_nil, wsA, ws, e2]) (okH_1' (l' := a :: (r ++ [s % 4294967296])) (by simp [wc])), ⟨by simp; omega, ?_, e4, ?_⟩, by simp; omega⟩
     ·exact WL_append (a := a :: r) |>.2 ⟨ho, WL_cons.2 ⟨Nat.mod_lt _ (by omega), WL_nil⟩⟩
     ·have e : a :: (r ++ [s % 4294967296]) = (a :: r) ++ [s % 4294967296] := rfl
      simp only [List.length_cons] at hval
      simp only [e, List.length_append, List.length_cons, List.length_nil, Nat.zero_add, take_succ x (r.length + 1), take_succ y (r.length + 1), val_append, val_cons (s % 4294967296), val_nil, Nat.mul_zero, Nat.add_zero, Nat.pow_succ 4294967296 (r.length + 1)]
      exact less_aux hval e3
    ·have e : (a :: r).length = N := by simp only [List.length_cons] at hoN ⊢; omega
     have hv := less_end ho hx (by omega) hle hval
     refine (onWx_e _ (a :: r)).mpr ⟨ho, by omega, ?_⟩
     rw [hv]; exact hK
theorem cmp01_sound (hΓ : Holds P Γ) {f fw : Nat} (hw : Γ fw = .dat true word_G) (hc : check P f = some (30, (ac_linkworkref01_compare fw).strip, [.tmp 4])) : Sound P f (.dat true cmp01_G) := by
 refine sound_dat hc cmp01_good hΓ (fun args K hcl hfi hG => ?_)
 match args, hG with
 | [a, b], hG =>
  obtain ⟨x, rfl, hx, y, rfl, hy, hK⟩ := hG
  refine ⟨by simp, ?_⟩
  simp only [go_sem, ac_linkworkref01_compare, hw]
  intro h1 h2
  refine ⟨⟨by omega, by omega⟩, ?_⟩
  refine wpA_loop (fun n : Nat => ⟨mkV [(0, wsA x), (1, wsA y), (5, .one (.lit (.int .i64 ((n : Int) - 1))))], mkH []⟩) (fun n => n ≤ max x.length y.length ∧ val (x.drop n) = val (y.drop n)) id (max x.length y.length) ?_ ?_ ?_
  ·exact weak_lit (by simp [okS, okV, okC, okL, okH, okB, okE, mkV_cons, mkV_nil, mkH_cons, mkH_nil, wsA, ws]) trivial
  ·refine ⟨Nat.le_refl _, ?_⟩
   rw [List.drop_of_length_le (by omega), List.drop_of_length_le (by omega)]
  ·rintro n ⟨hn, hd⟩
   simp only [go_sem, hw]
   refine ⟨fun h => ?_, fun h => ?_⟩
   ·have e : ((n : Int) - 1).toNat = n - 1 := by omega
    have e1 := val_drop x (n - 1)
    have e2 := val_drop y (n - 1)
    have e3 : n - 1 + 1 = n := by omega
    rw [e3] at e1 e2
    rw [e]
    refine ⟨hx, h, hy, h, fun he => ⟨by omega, n - 1, weak_lit (by simp [okS, okV, okC, okL, okH, okB, okE, mkV_cons, mkV_nil, mkH_cons, mkH_nil, wsA, ws]; omega) trivial, ⟨by omega, by rw [e1, e2, hd, he]⟩, by simp only [id]; omega⟩, fun he => ⟨hx, h, hy, h, fun hlt => ?_, fun hge => ?_⟩⟩
    ·rw [ordN_lt (cmp_at hx (by rw [e3]; exact hd) hlt)] at hK; exact hK
    ·rw [ordN_gt (cmp_at (m := n - 1) hy (by rw [e3]; exact hd.symm) (by omega))] at hK; exact hK
   ·have : n = 0 := by omega
    subst this
    have : val x = val y := hd
    rw [this, ordN_eq] at hK; exact hK
theorem bits01_sound (hΓ : Holds P Γ) {f : Nat} (hc : check P f = some (25, ac_linkworkref01_bits.strip, [.tmp 2])) : Sound P f (.dat true bits01_G) := by
 refine sound_dat hc bits01_good hΓ (fun args K hcl hfi hG => ?_)
 match args, hG with
 | [a], hG =>
  obtain ⟨x, rfl, hx, hxl, hK⟩ := hG
  refine ⟨by simp, ?_⟩
  simp only [go_sem, ac_linkworkref01_bits]
  intro h1
  refine ⟨fun h => ?_, fun h _ => ⟨by omega, by omega, fun _ => ⟨by omega, by omega, by omega, ?_⟩⟩⟩
  ·rw [if_pos h] at hK; exact hK
  rw [if_neg h] at hK
  have e : ((x.length : Int) - 1).toNat = x.length - 1 := by omega
  rw [e]
  have hb := WL_getD hx (x.length - 1)
  generalize x.getD (x.length - 1) 0 = w at *
  have hb32 : bln w ≤ 32 := bln_le (by omega)
  refine wpA_loop (fun p : Nat × Nat => ⟨mkV [(3, .one (.lit (.int .i64 (32 * ((x.length : Int) - 1) + p.1)))), (4, .one (.lit (.int .u32 p.2)))], mkH []⟩) (fun p => p.2 < 4294967296 ∧ p.1 + bln p.2 = bln w) (fun p => p.2) (0, w) ?_ ?_ ?_
  ·exact weak_lit (by simp [okS, okV, okC, okL, okH, okB, okE, mkV_cons, mkV_nil, mkH_cons, mkH_nil, wsA, ws]) trivial
  ·exact ⟨hb, by simp⟩
  ·rintro ⟨i, m⟩ ⟨hm, hi⟩
   simp only at hm hi
   simp only [go_sem]
   refine ⟨fun h => ?_, fun h => ?_⟩
   ·have e := bln_pos (n := m) (by omega)
    refine ⟨by omega, by decide, (i + 1, m / 2), weak_lit (by simp [okS, okV, okC, okL, okH, okB, okE, mkV_cons, mkV_nil, mkH_cons, mkH_nil, wsA, ws]; omega) trivial, ⟨by simp only; omega, by simp only; omega⟩, by simp only; omega⟩
   ·have : m = 0 := by omega
    subst this
    rw [bln_zero] at hi
    have e : (32 * ((x.length : Int) - 1) + (i : Int)) = ((32 * (x.length - 1) + bln w : Nat) : Int) := by omega
    rw [e]; exact hK
theorem times01_sound (hΓ : Holds P Γ) {f ft : Nat} (ht : Γ ft = .fresh 1 tr01_G) (hc : check P f = some (68, (ac_linkworkref01_times ft).strip, [.tmp 4])) : Sound P f (.dat false times_G) := by
 refine sound_dat hc times_good hΓ (fun args K hcl hfi hG => ?_)
 match args, hG with
 | [a, b], hG =>
  obtain ⟨x, rfl, hx, y, rfl, hy, hxl, hyl, hK⟩ := hG
  refine ⟨by simp, ?_⟩
  simp only [go_sem, ac_linkworkref01_times, ht]
  intro h1 h2
  refine ⟨by omega, by omega, fun _ => ?_⟩
  generalize hN : x.length + y.length = N
  refine wpA_loop (fun p : Nat × List Nat => ⟨mkV [(0, wsA x), (1, wsA y), (5, .one (.own 15 1 1 0 N)), (17, .one (.lit (.int .i64 x.length))), (18, .one (.lit (.int .i64 p.1)))], mkH [(15, ⟨1, some ⟨p.2.map wc, 1, true⟩⟩)]⟩)
   (fun p => p.1 ≤ x.length ∧ WL p.2 ∧ p.2.length = N ∧ val p.2 = val (x.take p.1) * val y ∧ ∀ j, p.1 + y.length ≤ j → p.2.getD j 0 = 0) (fun p => x.length - p.1) (0, List.replicate N 0) ?_ ?_ ?_
  ·exact weak_lit (by simp [okS, okV, okC, okL, okH, okB, okE, mkV_cons, mkV_nil, mkH_cons, mkH_nil, wsA, ws]) (okH_1 (by simp))
  ·simp [WL_rep, val, val_rep]; intro j _; rw [List.getElem?_replicate]; split <;> rfl
  ·rintro ⟨i, o⟩ ⟨hi, ho, hoN, hval, hz⟩
   simp only at hi ho hoN hval hz
   simp only [go_sem, ht, hoN]
   refine ⟨fun hlt => ?_, fun hge => ?_⟩
   ·have g1 := WL_getD hx i
    intro _
    refine wpA_loop (fun p : Nat × Nat × List Nat => ⟨mkV [(0, wsA x), (1, wsA y), (5, .one (.own 15 1 1 0 N)), (6, .one (.lit (.int .i64 i))), (7, .one (.lit (.int .u64 p.2.1))), (17, .one (.lit (.int .i64 x.length))), (18, .one (.lit (.int .i64 i))), (22, .one (.lit (.int .i64 y.length))), (23, .one (.lit (.int .i64 p.1)))], mkH [(15, ⟨1, some ⟨p.2.2.map wc, 1, true⟩⟩)]⟩)
     (fun p => p.1 ≤ y.length ∧ p.2.1 < 4294967296 ∧ WL p.2.2 ∧ p.2.2.length = N ∧ val p.2.2 + 4294967296 ^ i * 4294967296 ^ p.1 * p.2.1 = val (x.take i) * val y + 4294967296 ^ i * x.getD i 0 * val (y.take p.1) ∧ ∀ j, i + y.length ≤ j → p.2.2.getD j 0 = 0) (fun p => y.length - p.1) (0, 0, o) ?_ ?_ ?_
    ·exact weak_lit (by simp [okS, okV, okC, okL, okH, okB, okE, mkV_cons, mkV_nil, mkH_cons, mkH_nil, wsA, ws]) (okH_1 rfl)
    ·exact ⟨Nat.zero_le _, by simp, ho, hoN, by simp [val, hval], hz⟩
    ·rintro ⟨k, c, o⟩ ⟨hk, hc, ho, hoN, hval, hz⟩
     simp only at hk hc ho hoN hval hz
     simp only [go_sem, ht, hoN]
     refine ⟨fun hlt2 => ?_, fun hge2 => ?_⟩
     ·have g2 := WL_getD hy k
      have g3 := WL_getD ho (i + k)
      have s1 := mul_lt64 g1 g2 hc g3
      have e1 : x.getD i 0 % 18446744073709551616 = x.getD i 0 := by omega
      have e2 : y.getD k 0 % 18446744073709551616 = y.getD k 0 := by omega
      have e3 : o.getD (i + k) 0 % 18446744073709551616 = o.getD (i + k) 0 := by omega
      have hstep := times_step hval (by omega) rfl
      rw [e1, e2, e3, Nat.mod_eq_of_lt (show x.getD i 0 * y.getD k 0 < 18446744073709551616 by omega), Nat.mod_eq_of_lt (show x.getD i 0 * y.getD k 0 + o.getD (i + k) 0 < 18446744073709551616 by omega), Nat.mod_eq_of_lt (show x.getD i 0 * y.getD k 0 + o.getD (i + k) 0 + c < 18446744073709551616 by omega), Nat.add_comm _ c]
      generalize hs : c + (x.getD i 0 * y.getD k 0 + o.getD (i + k) 0) = s at s1 hstep
      refine ⟨hlt, hlt2, by omega, by omega, by omega, by omega, by decide, by omega, by omega, by omega, (k + 1, s / 4294967296, o.set (i + k) (s % 4294967296)), weak_lit (by simp [okS, okV, okC, okL, okH, okB, okE, mkV_cons, mkV_nil, mkH_cons, mkH_nil, wsA, ws]) (okH_1 rfl), ⟨by simp only; omega, by simp only; omega, WL_set ho _ (Nat.mod_lt _ (by omega)), by simp [hoN], hstep, ?_⟩, by simp only; omega⟩
      intro j hj
      simp only
      rw [Num.getD_set_ne (by omega)]; exact hz j hj
     ·have e : k = y.length := by omega
      subst e
      have hend := times_end hval (by omega) (hz _ (Nat.le_refl _))
      rw [Nat.mod_eq_of_lt hc]
      refine fun _ => ⟨by omega, by omega, by omega, by omega, (i + 1, o.set (i + y.length) c), weak_lit (by simp [okS, okV, okC, okL, okH, okB, okE, mkV_cons, mkV_nil, mkH_cons, mkH_nil, wsA, ws]) (okH_1 rfl), ⟨by simp only; omega, WL_set ho _ hc, by simp [hoN], hend, ?_⟩, by simp only; omega⟩
      intro j hj
      simp only at hj ⊢
      rw [Num.getD_set_ne (by omega)]; exact hz j (by omega)
   ·have e : i = x.length := by omega
    subst e
    rw [take_all (Nat.le_refl _)] at hval
    refine ⟨ho, by omega, ?_⟩
    rw [hval]; exact hK
end Go.Abs
end
section
set_option linter.unusedVariables false
set_option linter.unusedSimpArgs false
set_option maxRecDepth 100000
namespace Go.Abs
open Go.Num
variable {P : Program} {Γ : Nat → Spec}
def ac_linkworkref01_cut : AC := (.seq (.ops false [.m 2 (.c (.one .emp))])
 (.fg [0] (.seq (.block 0 (.loop (.seq (.seq (.ops false [.m 3 (.t 0), .u 4 (.len (.t 3)), .u 5 (.bin .gtr (.t 4) (.i 0)), .m 6 (.t 5), .w 7 6 true (.mv (.t 0)), .w 8 6 true (.mv (.t 0)), .w 9 6 true (.len (.t 8)), .w 10 6 true (.bin .sub (.t 9) (.i 1)), .w 11 6 true (.idx 1 (.t 7) (.t 10)), .w 12 6 true (.ld none 1 false (.t 11)), .w 13 6 true (.bin .eql (.t 12) (.c (.one (.lit (.int .u32 0))))), .u 14 (.pick (.t 6) (.t 13) .fa)])
 (.fg [0, 14] (.cond (.t 14) .skip (.exit 0))))
 (.fg [0] (.block 1 (.ops false [.m 15 (.t 0), .m 16 (.t 0), .u 17 (.len (.t 16)), .u 18 (.bin .sub (.t 17) (.i 1)), .u 19 (.sl 1 (.t 15) none (some (.t 18))), .m 0 (.t 19)]))))))
 (.fg [0] (.seq (.ops false [.m 20 (.t 0), .m 2 (.t 20)])
 .ret)))))
def ac_linkworkref01_halve (f0 f1 : Nat) : AC := (.seq (.ops false [.m 2 (.c (.one .emp))])
 (.fg [0] (.seq (.seq (.ops false [.m 4 (.t 0), .u 5 (.len (.t 4)), .m 6 (.i 0)])
 (.fg [0, 5, 6] (.block 0 (.loop (.seq (.ops false [.u 7 (.bin .lss (.t 6) (.t 5))])
 (.fg [0, 5, 6, 7] (.seq (.cond (.t 7) .skip (.exit 0))
 (.fg [0, 5, 6] (.seq (.block 1 (.seq (.ops false [.m 8 (.t 6), .m 3 (.t 8)])
 (.fg [0, 3, 5, 6] (.ops false [.m 9 (.t 0), .m 10 (.t 3), .m 11 (.t 0), .m 12 (.t 3), .u 13 (.call f0 [(.t 11), (.t 12)]), .u 14 (.bin .shr (.t 13) (.c (.one (.lit (.int .u64 1))))), .m 15 (.t 0), .m 16 (.t 3), .u 17 (.bin .add (.t 16) (.i 1)), .u 18 (.call f0 [(.t 15), (.t 17)]), .u 19 (.bin .shl (.t 18) (.c (.one (.lit (.int .u64 31))))), .u 20 (.bin .or (.t 14) (.t 19)), .u 21 (.conv .u32 (.t 20)), .u 22 (.idx 1 (.t 9) (.t 10)), .n (.st none 1 (.t 22) (.t 21))]))))
 (.fg [0, 5, 6] (.ops false [.u 23 (.bin .add (.t 6) (.i 1)), .m 6 (.t 23)])))))))))))
 (.fg [0] (.seq (.ops false [.m 24 (.t 0), .u 25 (.call f1 [(.t 24)]), .m 2 (.t 25)])
 .ret)))))
def ac_linkworkref01_take (f0 : Nat) : AC := (.seq (.ops false [.m 4 (.c (.one (.lit (.int .u64 0))))])
 (.fg [0, 1, 4] (.seq (.ops false [.m 7 (.t 0), .u 8 (.len (.t 7)), .m 9 (.i 0)])
 (.fg [0, 1, 4, 8, 9] (.block 0 (.loop (.seq (.ops false [.u 10 (.bin .lss (.t 9) (.t 8))])
 (.fg [0, 1, 4, 8, 9, 10] (.seq (.cond (.t 10) .skip (.exit 0))
 (.fg [0, 1, 4, 8, 9] (.seq (.block 1 (.seq (.ops false [.m 11 (.t 9), .m 5 (.t 11)])
 (.fg [0, 1, 4, 5, 8, 9] (.seq (.ops false [.m 12 (.t 0), .m 13 (.t 5), .u 14 (.call f0 [(.t 12), (.t 13)]), .u 15 (.bin .add (.c (.one (.lit (.int .u64 4294967296)))) (.t 14)), .m 16 (.t 1), .m 17 (.t 5), .u 18 (.call f0 [(.t 16), (.t 17)]), .u 19 (.bin .sub (.t 15) (.t 18)), .m 20 (.t 4), .u 21 (.bin .sub (.t 19) (.t 20)), .m 6 (.t 21)])
 (.fg [0, 1, 5, 6, 8, 9] (.ops false [.m 22 (.t 0), .m 23 (.t 5), .m 24 (.t 6), .u 25 (.conv .u32 (.t 24)), .m 26 (.t 6), .u 27 (.bin .shr (.t 26) (.c (.one (.lit (.int .u64 32))))), .u 28 (.bin .sub (.c (.one (.lit (.int .u64 1)))) (.t 27)), .u 29 (.idx 1 (.t 22) (.t 23)), .n (.st none 1 (.t 29) (.t 25)), .m 4 (.t 28)]))))))
 (.fg [0, 1, 4, 8, 9] (.ops false [.u 30 (.bin .add (.t 9) (.i 1)), .m 9 (.t 30)])))))))))))))
theorem cut_sound (hΓ : Holds P Γ) {f : Nat} (hc : check P f = some (21, ac_linkworkref01_cut.strip, [.tmp 2])) : Sound P f (.own cut_G) := by
 refine sound_own hc hΓ (fun d args h K hG => ?_)
 unfold cut_G at hG
 split at hG
 case h_2 => exact hG.elim
 rename_i r ver len
 obtain ⟨l, post, rfl, hr, hl, hll, hK⟩ := hG
 refine ⟨[r], [⟨(l ++ post).map wc, 1, true⟩], [.one (.own 1048576 ver 1 0 l.length)], by simp, rfl, ?_, ?_, ?_, fun hfi => ⟨by simp, ?_⟩⟩
 ·intro i r' b h1 h2
  cases i with
  | zero => simp only [List.getElem?_cons_zero, Option.some.injEq] at h1 h2; subst h1 h2; exact ⟨by rw [hr], rfl, of_eq_true (clean_ws _)⟩
  | succ i => simp at h1
 ·simp [exA, exC, exB, nameOf, pinA, wsA, ws]
 ·intro a ha
  simp only [List.mem_cons, List.not_mem_nil, or_false] at ha
  subst ha
  simp [pasA, pasC, pasB, nameOf, pinA]
 simp only [go_sem, ac_linkworkref01_cut, hr]
 refine wpA_loop (fun n : Nat => ⟨mkV [(0, .one (.own 1048576 ver 1 0 n))], mkH [(1048576, ⟨ver, some ⟨(l ++ post).map wc, 1, true⟩⟩)]⟩)
  (fun n => n ≤ l.length ∧ val (l.take n) = val l) id l.length ?_ ?_ ?_
 ·exact weak_lit (by simp [okS, okV, okC, okL, okH, okB, okE, mkV_cons, mkV_nil, mkH_cons, mkH_nil, wsA, ws]) (okH_1 (by simp))
 ·simp
 ·rintro n ⟨hn, ht⟩
  simp only [go_sem, hr]
  rw [show ((n : Int) - 1).toNat = n - 1 by omega]
  refine fun _ => ⟨fun h => fun _ => ⟨by omega, by omega, by simp; omega, ?_, ?_⟩, fun h => ?_⟩
  ·rw [get_app (by omega)]
   refine fun h0 _ => ⟨by omega, by omega, by omega, n - 1, weak_lit (by simp [okS, okV, okC, okL, okH, okB, okE, mkV_cons, mkV_nil, mkH_cons, mkH_nil, wsA, ws]) (okH_1 rfl), ⟨by omega, ?_⟩, by simp only [id]; omega⟩
   have := take_succ l (n - 1)
   rw [show n - 1 + 1 = n by omega, h0, Nat.mul_zero, Nat.add_zero] at this
   rw [← this]; exact ht
  ·rw [get_app (by omega)]
   intro h0
   have := digs_val (WL_take hl n) (NZ_take h hn h0)
   rw [ht] at this
   have h2 := hK (l.drop n ++ post)
   rw [this, List.length_take, Nat.min_eq_left hn, ← List.append_assoc, List.take_append_drop] at h2
   exact h2
  ·have h1 : n = 0 := by omega
   subst h1
   have : val l = 0 := by rw [← ht]; simp [val]
   have h2 := hK (l ++ post)
   rw [this, digs_zero] at h2
   exact h2
theorem halve_sound (hΓ : Holds P Γ) {f fw fc : Nat} (hw : Γ fw = .dat true word_G) (hc' : Γ fc = .own cut_G) (hc : check P f = some (26, (ac_linkworkref01_halve fw fc).strip, [.tmp 2])) : Sound P f (.own halve_G) := by
 refine sound_own hc hΓ (fun d args h K hG => ?_)
 unfold halve_G at hG
 split at hG
 case h_2 => exact hG.elim
 rename_i r ver len
 obtain ⟨l, post, rfl, hr, hl, hll, hK⟩ := hG
 refine ⟨[r], [⟨(l ++ post).map wc, 1, true⟩], [.one (.own 1048576 ver 1 0 l.length)], by simp, rfl, ?_, ?_, ?_, fun hfi => ⟨by simp, ?_⟩⟩
 ·intro i r' b h1 h2
  cases i with
  | zero => simp only [List.getElem?_cons_zero, Option.some.injEq] at h1 h2; subst h1 h2; exact ⟨by rw [hr], rfl, of_eq_true (clean_ws _)⟩
  | succ i => simp at h1
 ·simp [exA, exC, exB, nameOf, pinA, wsA, ws]
 ·intro a ha
  simp only [List.mem_cons, List.not_mem_nil, or_false] at ha
  subst ha
  simp [pasA, pasC, pasB, nameOf, pinA]
 simp only [go_sem, ac_linkworkref01_halve, hr]
 intro h1
 refine wpA_loop (fun o : List Nat => ⟨mkV [(0, .one (.own 1048576 ver 1 0 l.length)), (5, .one (.lit (.int .i64 l.length))), (6, .one (.lit (.int .i64 o.length)))], mkH [(1048576, ⟨ver, some ⟨(o ++ (l.drop o.length ++ post)).map wc, 1, true⟩⟩)]⟩)
  (fun o => o.length ≤ l.length ∧ WL o ∧ val o = val l / 2 % 4294967296 ^ o.length) (fun o => l.length - o.length) [] ?_ ?_ ?_
 ·exact weak_lit (by simp [okS, okV, okC, okL, okH, okB, okE, mkV_cons, mkV_nil, mkH_cons, mkH_nil, wsA, ws]) (okH_1 (by simp))
 ·simp [WL_nil, val]; omega
 ·rintro o ⟨hoN, ho, hval⟩
  have hw2 := WL_od ho hl
  simp only [go_sem, hr, hw, hc', len_od hoN, take_od hoN, Nat.le_add_right, get_od, get_od0]
  refine ⟨fun hlt => ⟨hw2, by decide, by omega, hw2, by decide, ⟨rfl, by have := WL_getD hl o.length; omega, by omega⟩, hlt, by omega, by omega, ?_⟩, fun hge => ?_⟩
  ·have hd := halve_or (WL_getD hl o.length) (WL_getD hl (o.length + 1))
   rw [down_step hl (by omega), Nat.pow_one] at hd
   rw [hd, set_od _ hlt]
   generalize hv : val l / 2 / 4294967296 ^ o.length % 4294967296 = v
   have hvB : v < 4294967296 := by rw [← hv]; exact Nat.mod_lt _ (by omega)
   refine ⟨o ++ [v], weak_lit (by simp [okS, okV, okC, okL, okH, okB, okE, mkV_cons, mkV_nil, mkH_cons, mkH_nil, wsA, ws]) (okH_1 rfl), ⟨by simp; omega, WL_append.2 ⟨ho, WL_cons.2 ⟨hvB, WL_nil⟩⟩, ?_⟩, by simp; omega⟩
   rw [val_append, List.length_append, List.length_singleton, mod_pow_succ, hv, ← hval]; simp [val]
  ·have e : o.length = l.length := by omega
   have hlt : val l / 2 < 4294967296 ^ l.length := Nat.lt_of_le_of_lt (Nat.div_le_self _ _) (val_lt hl)
   rw [e, Nat.mod_eq_of_lt hlt] at hval
   rw [List.drop_of_length_le (by omega), List.nil_append, ← e]
   refine ⟨o, post, rfl, by simp [mkH_cons], ho, by omega, fun post' => ?_⟩
   simp only [go_sem]
   rw [hval]
   exact hK post'
theorem take_sound (hΓ : Holds P Γ) {f fw : Nat} (hw : Γ fw = .dat true word_G) (hc : check P f = some (31, (ac_linkworkref01_take fw).strip, [])) : Sound P f (.own take_G) := by
 refine sound_own hc hΓ (fun d args h K hG => ?_)
 unfold take_G at hG
 split at hG
 case h_3 => exact hG.elim
 case h_2 =>
  rename_i r ver len b _
  obtain ⟨y, rfl, hy, l, post, rfl, hr, hl, hll, hle, hK⟩ := hG
  refine ⟨[r], [⟨(l ++ post).map wc, 1, true⟩], [.one (.own 1048576 ver 1 0 l.length), wsA y], by simp, rfl, ?_, ?_, ?_, fun hfi => ⟨by simp, ?_⟩⟩
  ·intro i r' b h1 h2
   cases i with
   | zero => simp only [List.getElem?_cons_zero, Option.some.injEq] at h1 h2; subst h1 h2; exact ⟨by rw [hr], rfl, of_eq_true (clean_ws _)⟩
   | succ i => simp at h1
  ·simp [exA, exC, exB, nameOf, pinA, wsA, ws]
  ·intro a ha
   simp only [List.mem_cons, List.not_mem_nil, or_false] at ha
   rcases ha with rfl | rfl
   ·simp [pasA, pasC, pasB, nameOf, pinA]
   ·exact .slice _ (of_eq_true (clean_ws _))
  simp only [go_sem, ac_linkworkref01_take, hr]
  intro h1
  refine wpA_loop (fun p : List Nat × Nat => ⟨mkV [(0, .one (.own 1048576 ver 1 0 l.length)), (1, wsA y), (4, .one (.lit (.int .u64 p.2))), (8, .one (.lit (.int .i64 l.length))), (9, .one (.lit (.int .i64 p.1.length)))],
    mkH [(1048576, ⟨ver, some ⟨(p.1 ++ (l.drop p.1.length ++ post)).map wc, 1, true⟩⟩)]⟩)
   (fun p => p.1.length ≤ l.length ∧ WL p.1 ∧ p.2 ≤ 1 ∧ val p.1 + val (y.take p.1.length) = val (l.take p.1.length) + 4294967296 ^ p.1.length * p.2) (fun p => l.length - p.1.length) ([], 0) ?_ ?_ ?_
  ·exact weak_lit (by simp [okS, okV, okC, okL, okH, okB, okE, mkV_cons, mkV_nil, mkH_cons, mkH_nil, wsA, ws]) (okH_1 (by simp))
  ·simp [WL_nil, val]
  ·rintro ⟨o, c⟩ ⟨hoN, ho, hc1, hval⟩
   simp only at hoN ho hc1 hval
   have hw2 := WL_od ho hl
   simp only [go_sem, hr, hw, len_od hoN, take_od hoN, Nat.le_add_right, get_od, get_od0]
   refine ⟨fun hlt => ?_, fun hge => ?_⟩
   ·obtain ⟨s, e1, e2, e3, e4⟩ := minus_e (WL_getD hl o.length) (WL_getD hy o.length) hc1
    simp only [e1, e2, set_wc', set_od _ hlt]
    refine ⟨hw2, hy, ⟨by omega, by decide, by decide⟩, hlt, by omega, by omega, (o ++ [s % 4294967296], 1 - s / 4294967296), weak_lit (by simp [okS, okV, okC, okL, okH, okB, okE, mkV_cons, mkV_nil, mkH_cons, mkH_nil, wsA, ws, e2]) (by first | exact okH_1' rfl | exact ⟨okB_wc' rfl, okB_wc rfl, trivial⟩), ⟨by simp; omega, WL_append.2 ⟨ho, WL_cons.2 ⟨Nat.mod_lt _ (by omega), WL_nil⟩⟩, e4, ?_⟩, by simp; omega⟩
    simp only [List.length_append, List.length_cons, List.length_nil, Nat.zero_add, take_succ, val_append, val_cons, val_nil, Nat.mul_zero, Nat.add_zero, Nat.pow_succ]
    exact less_aux hval e3
   ·have e : o.length = l.length := by omega
    have hv := less_end ho hl e hle hval
    have hd := dig_val ho
    rw [hv, e] at hd
    rw [hd] at hK
    rw [List.drop_of_length_le (by omega), List.nil_append]
    exact hK
 case h_1 =>
  rename_i r ver len r2 ver2 len2
  obtain ⟨l, post, y, posty, hne, rfl, hr, hl, hll, rfl, hr2, hy, hle, hK⟩ := hG
  refine ⟨[r, r2], [⟨(l ++ post).map wc, 1, true⟩, ⟨(y ++ posty).map wc, 1, true⟩], [.one (.own 1048576 ver 1 0 l.length), .one (.own 1048577 ver2 1 0 y.length)], by simp [hne], rfl, ?_, ?_, ?_, fun hfi => ⟨by simp, ?_⟩⟩
  ·intro i r' b h1 h2
   cases i with
   | zero => simp only [List.getElem?_cons_zero, Option.some.injEq] at h1 h2; subst h1 h2; exact ⟨by rw [hr], rfl, of_eq_true (clean_ws _)⟩
   | succ i =>
    cases i with
    | zero => simp only [List.getElem?_cons_zero, List.getElem?_cons_succ, Option.some.injEq] at h1 h2; subst h1 h2; exact ⟨by rw [hr2], rfl, of_eq_true (clean_ws _)⟩
    | succ i => simp at h1
  ·simp [exA, exC, exB, nameOf, pinA, wsA, ws]
  ·intro a ha
   simp only [List.mem_cons, List.not_mem_nil, or_false] at ha
   rcases ha with rfl | rfl
   ·simp [pasA, pasC, pasB, nameOf, pinA]
   ·simp [pasA, pasC, pasB, nameOf, pinA]
  simp only [go_sem, ac_linkworkref01_take, hr, hr2]
  intro h1
  refine wpA_loop (fun p : List Nat × Nat => ⟨mkV [(0, .one (.own 1048576 ver 1 0 l.length)), (1, .one (.own 1048577 ver2 1 0 y.length)), (4, .one (.lit (.int .u64 p.2))), (8, .one (.lit (.int .i64 l.length))), (9, .one (.lit (.int .i64 p.1.length)))],
    mkH [(1048576, ⟨ver, some ⟨(p.1 ++ (l.drop p.1.length ++ post)).map wc, 1, true⟩⟩), (1048577, ⟨ver2, some ⟨(y ++ posty).map wc, 1, true⟩⟩)]⟩)
   (fun p => p.1.length ≤ l.length ∧ WL p.1 ∧ p.2 ≤ 1 ∧ val p.1 + val (y.take p.1.length) = val (l.take p.1.length) + 4294967296 ^ p.1.length * p.2) (fun p => l.length - p.1.length) ([], 0) ?_ ?_ ?_
  ·exact weak_lit (by simp [okS, okV, okC, okL, okH, okB, okE, mkV_cons, mkV_nil, mkH_cons, mkH_nil, wsA, ws]) ⟨okB_wc (by simp), okB_wc rfl, trivial⟩
  ·simp [WL_nil, val]
  ·rintro ⟨o, c⟩ ⟨hoN, ho, hc1, hval⟩
   simp only at hoN ho hc1 hval
   have hw2 := WL_od ho hl
   simp only [go_sem, hr, hr2, hw, len_od hoN, take_od hoN, Nat.le_add_right, get_od, get_od0, List.length_append, List.take_left]
   refine ⟨fun hlt => ?_, fun hge => ?_⟩
   ·obtain ⟨s, e1, e2, e3, e4⟩ := minus_e (WL_getD hl o.length) (WL_getD hy o.length) hc1
    simp only [e1, e2, set_wc', set_od _ hlt]
    refine ⟨hw2, hy, ⟨by omega, by decide, by decide⟩, hlt, by omega, by omega, (o ++ [s % 4294967296], 1 - s / 4294967296), weak_lit (by simp [okS, okV, okC, okL, okH, okB, okE, mkV_cons, mkV_nil, mkH_cons, mkH_nil, wsA, ws, e2]) (by first | exact okH_1' rfl | exact ⟨okB_wc' rfl, okB_wc rfl, trivial⟩), ⟨by simp; omega, WL_append.2 ⟨ho, WL_cons.2 ⟨Nat.mod_lt _ (by omega), WL_nil⟩⟩, e4, ?_⟩, by simp; omega⟩
    simp only [List.length_append, List.length_cons, List.length_nil, Nat.zero_add, take_succ, val_append, val_cons, val_nil, Nat.mul_zero, Nat.add_zero, Nat.pow_succ]
    exact less_aux hval e3
   ·have e : o.length = l.length := by omega
    have hv := less_end ho hl e hle hval
    have hd := dig_val ho
    rw [hv, e] at hd
    rw [hd] at hK
    rw [List.drop_of_length_le (by omega), List.nil_append]
    exact hK
end Go.Abs
end
section
set_option linter.unusedVariables false
set_option linter.unusedSimpArgs false
set_option maxRecDepth 100000
namespace Go.Abs
open Go.Num
variable {P : Program} {Γ : Nat → Spec}
def ac_linkworkref01_gcd (f0 f1 f2 f3 f4 f5 : Nat) : AC := (.seq (.ops false [.m 4 (.c (.one .emp))])
 (.fg [0, 1] (.seq (.ops false [.m 6 (.t 0), .u 7 (.callf f0 [(.t 6)]), .m 8 (.t 1), .u 9 (.callf f0 [(.t 8)]), .m 0 (.t 7), .m 1 (.t 9)])
 (.fg [0, 1] (.seq (.seq (.ops false [.m 10 (.t 0), .u 11 (.len (.t 10)), .u 12 (.bin .eql (.t 11) (.i 0))])
 (.fg [0, 1, 12] (.cond (.t 12) (.seq (.ops false [.m 13 (.t 1), .m 4 (.t 13)])
 .ret) .skip)))
 (.fg [0, 1] (.seq (.seq (.ops false [.m 14 (.t 1), .u 15 (.len (.t 14)), .u 16 (.bin .eql (.t 15) (.i 0))])
 (.fg [0, 1, 16] (.cond (.t 16) (.seq (.ops false [.m 17 (.t 0), .m 4 (.t 17)])
 .ret) .skip)))
 (.fg [0, 1] (.seq (.ops false [.m 5 (.i 0)])
 (.fg [0, 1, 5] (.seq (.block 0 (.loop (.seq (.seq (.ops false [.m 18 (.t 0), .u 19 (.idx 1 (.t 18) (.i 0)), .u 20 (.ld none 1 false (.t 19)), .u 21 (.bin .and (.t 20) (.c (.one (.lit (.int .u32 1))))), .u 22 (.bin .eql (.t 21) (.c (.one (.lit (.int .u32 0))))), .m 23 (.t 22), .w 24 23 true (.mv (.t 1)), .w 25 23 true (.idx 1 (.t 24) (.i 0)), .w 26 23 true (.ld none 1 false (.t 25)), .w 27 23 true (.bin .and (.t 26) (.c (.one (.lit (.int .u32 1))))), .w 28 23 true (.bin .eql (.t 27) (.c (.one (.lit (.int .u32 0))))), .u 29 (.pick (.t 23) (.t 28) .fa)])
 (.fg [0, 1, 5, 29] (.cond (.t 29) .skip (.exit 0))))
 (.fg [0, 1, 5] (.block 1 (.seq (.ops false [.m 30 (.t 0), .u 31 (.call f1 [(.t 30)]), .m 32 (.t 1), .u 33 (.call f1 [(.t 32)]), .m 0 (.t 31), .m 1 (.t 33)])
 (.fg [0, 1, 5] (.ops false [.m 34 (.t 5), .u 35 (.bin .add (.t 34) (.i 1)), .m 5 (.t 35)]))))))))
 (.fg [0, 1, 5] (.seq (.block 2 (.loop (.seq (.seq (.ops false [.m 36 (.t 0), .u 37 (.len (.t 36)), .u 38 (.bin .gtr (.t 37) (.i 0))])
 (.fg [0, 1, 5, 38] (.cond (.t 38) .skip (.exit 2))))
 (.fg [0, 1, 5] (.block 3 (.seq (.block 4 (.loop (.seq (.seq (.ops false [.m 39 (.t 0), .u 40 (.idx 1 (.t 39) (.i 0)), .u 41 (.ld none 1 false (.t 40)), .u 42 (.bin .and (.t 41) (.c (.one (.lit (.int .u32 1))))), .u 43 (.bin .eql (.t 42) (.c (.one (.lit (.int .u32 0)))))])
 (.fg [0, 1, 5, 43] (.cond (.t 43) .skip (.exit 4))))
 (.fg [0, 1, 5] (.block 5 (.ops false [.m 44 (.t 0), .u 45 (.call f1 [(.t 44)]), .m 0 (.t 45)]))))))
 (.fg [0, 1, 5] (.seq (.block 6 (.loop (.seq (.seq (.ops false [.m 46 (.t 1), .u 47 (.idx 1 (.t 46) (.i 0)), .u 48 (.ld none 1 false (.t 47)), .u 49 (.bin .and (.t 48) (.c (.one (.lit (.int .u32 1))))), .u 50 (.bin .eql (.t 49) (.c (.one (.lit (.int .u32 0)))))])
 (.fg [0, 1, 5, 50] (.cond (.t 50) .skip (.exit 6))))
 (.fg [0, 1, 5] (.block 7 (.ops false [.m 51 (.t 1), .u 52 (.call f1 [(.t 51)]), .m 1 (.t 52)]))))))
 (.fg [0, 1, 5] (.seq (.seq (.ops false [.m 53 (.t 0), .m 54 (.t 1), .u 55 (.call f2 [(.t 53), (.t 54)]), .u 56 (.bin .lss (.t 55) (.i 0))])
 (.fg [0, 1, 5, 56] (.cond (.t 56) (.ops false [.m 57 (.t 1), .m 58 (.t 0), .m 0 (.t 57), .m 1 (.t 58)]) .skip)))
 (.fg [0, 1, 5] (.seq (.ops false [.m 59 (.t 0), .m 60 (.t 1), .u 61 (.call f3 [(.t 59), (.t 60)])])
 (.fg [0, 1, 5] (.ops false [.m 62 (.t 0), .u 63 (.call f4 [(.t 62)]), .m 0 (.t 63)]))))))))))))))
 (.fg [1, 5] (.seq (.seq (.ops false [.m 64 (.t 5), .m 65 (.i 0)])
 (.fg [1, 64, 65] (.fz [1] (.block 8 (.loop (.seq (.ops false [.u 66 (.bin .lss (.t 65) (.t 64))])
 (.fg [1, 64, 65, 66] (.seq (.cond (.t 66) .skip (.exit 8))
 (.fg [1, 64, 65] (.seq (.block 9 (.ops false [.m 67 (.t 1), .m 68 (.t 1), .u 69 (.call f5 [(.t 67), (.t 68)]), .m 1 (.t 69)]))
 (.fg [1, 64, 65] (.ops false [.u 70 (.bin .add (.t 65) (.i 1)), .m 65 (.t 70)]))))))))))))
 (.fg [1] (.seq (.ops false [.m 71 (.t 1), .m 4 (.t 71)])
 .ret)))))))))))))))))
theorem gcd01_sound (hΓ : Holds P Γ) {f ft fh fc fk fu fp : Nat} (ht : Γ ft = .fresh 1 tr01_G) (hh : Γ fh = .own halve_G) (hcm : Γ fc = .dat true cmp01_G) (hk : Γ fk = .own take_G) (hu : Γ fu = .own cut_G) (hp : Γ fp = .dat false plus_G)
    (hc : check P f = some (72, (ac_linkworkref01_gcd ft fh fc fk fu fp).strip, [.tmp 4])) : Sound P f (.dat false gcd01_G) := by
  refine sound_dat hc gcd01_good hΓ (fun args K hcl hfi hG => ?_)
  match args, hG with
  | [a, b], hG =>
    obtain ⟨x, rfl, hx, y, rfl, hy, hxl, hyl, hK⟩ := hG
    refine ⟨by simp, ?_⟩
    simp only [go_sem, ac_linkworkref01_gcd, ht, hh, hcm, hk, hu, hp]
    have hxv := digs_len_le (val_lt hx)
    have hyv := digs_len_le (val_lt hy)
    refine ⟨hx, by omega, hy, by omega, fun _ => ⟨fun h0 => ?_, fun h0 _ => ⟨fun h1 => ?_, fun h1 => ?_⟩⟩⟩
    · rw [digs_len0.1 h0, Nat.gcd_zero_left] at hK; exact hK
    · rw [digs_len0.1 h1, Nat.gcd_zero_right] at hK; exact hK
    rw [digs_len0] at h0 h1
    refine wpA_loop (fun p : (Nat × List Nat) × (Nat × List Nat) × Nat => ⟨mkV [(0, .one (.own 7 1 1 0 (digs p.1.1).length)), (1, .one (.own 9 1 1 0 (digs p.2.1.1).length)), (5, .one (.lit (.int .i64 p.2.2)))], mkH [(7, ⟨1, some ⟨(digs p.1.1 ++ p.1.2).map wc, 1, true⟩⟩), (9, ⟨1, some ⟨(digs p.2.1.1 ++ p.2.1.2).map wc, 1, true⟩⟩)]⟩)
      (fun p => p.1.1 ≠ 0 ∧ p.2.1.1 ≠ 0 ∧ p.1.1 ≤ val x ∧ p.2.1.1 ≤ val y ∧ p.1.1 * 2 ^ p.2.2 ≤ val x ∧ Nat.gcd p.1.1 p.2.1.1 * 2 ^ p.2.2 = Nat.gcd (val x) (val y)) (fun p => p.1.1) ((val x, []), (val y, []), 0) ?_ ?_ ?_
    · exact weak_lit (by simp [okS, okV, okC, okL, okH, okB, okE, mkV_cons, mkV_nil, mkH_cons, mkH_nil, wsA, ws]) ⟨okB_wc (by simp), okB_wc (by simp), trivial⟩
    · exact ⟨h0, h1, Nat.le_refl _, Nat.le_refl _, by simp, by simp⟩
    · rintro ⟨⟨a, pa⟩, ⟨b, pb⟩, k⟩ ⟨ha, hb, hax, hby, hak, hg⟩
      simp only at ha hb hax hby hak hg
      have hkb : k < 32 * x.length := pow_lim (n := val x) (Nat.le_trans (Nat.le_mul_of_pos_left _ (by omega)) hak) (val_lt hx)
      have hal := Nat.le_trans (digs_len_mono hax) hxv
      have hbl := Nat.le_trans (digs_len_mono hby) hyv
      have hap := digs_pos_len ha
      have hbp := digs_pos_len hb
      simp only [go_sem, hh, hcm, hk, hu, hp, and32_1, digs_head ha, digs_head hb, hap, hbp, List.length_append]
      refine share4 (by omega) (by omega) (Nat.mod_lt _ (by omega)) (by omega) (by omega) (Nat.mod_lt _ (by omega)) (fun hae hbe => ?_) (fun hodd => ?_)
      · simp only [halve_G]
        refine ⟨digs a, pa, rfl, by simp [mkH_cons], digs_WL _, by omega, fun pa' => ?_⟩
        refine ⟨digs b, pb, rfl, by simp [upd, mkH_cons], digs_WL _, by omega, fun pb' => ?_⟩
        simp only [go_sem, val_digs]
        refine ⟨by omega, ((a / 2, pa'), (b / 2, pb'), k + 1), weak_lit (by simp [okS, okV, okC, okL, okH, okB, okE, mkV_cons, mkV_nil, mkH_cons, mkH_nil, wsA, ws]) ⟨okB_wc rfl, okB_wc rfl, trivial⟩, ⟨by simp only; omega, by simp only; omega, by simp only; omega, by simp only; omega, ?_, gcd_ee (by omega) (by omega) hg⟩, by simp only; omega⟩
        simp only
        refine Nat.le_trans ?_ hak
        rw [Nat.pow_succ, Nat.mul_comm (2 ^ k) 2, ← Nat.mul_assoc]
        exact Nat.mul_le_mul_right _ (by omega)
      · refine wpA_loop (fun p : Bool × (Nat × List Nat) × (Nat × List Nat) => match p.1 with
            | false => ⟨mkV [(0, .one (.own 7 1 1 0 (digs p.2.1.1).length)), (1, .one (.own 9 1 1 0 (digs p.2.2.1).length)), (5, .one (.lit (.int .i64 k)))], mkH [(7, ⟨1, some ⟨(digs p.2.1.1 ++ p.2.1.2).map wc, 1, true⟩⟩), (9, ⟨1, some ⟨(digs p.2.2.1 ++ p.2.2.2).map wc, 1, true⟩⟩)]⟩
            | true => ⟨mkV [(0, .one (.own 9 1 1 0 (digs p.2.1.1).length)), (1, .one (.own 7 1 1 0 (digs p.2.2.1).length)), (5, .one (.lit (.int .i64 k)))], mkH [(9, ⟨1, some ⟨(digs p.2.1.1 ++ p.2.1.2).map wc, 1, true⟩⟩), (7, ⟨1, some ⟨(digs p.2.2.1 ++ p.2.2.2).map wc, 1, true⟩⟩)]⟩)
          (fun p => p.2.2.1 ≠ 0 ∧ (p.2.1.1 % 2 ≠ 0 ∨ p.2.2.1 % 2 ≠ 0) ∧ (digs p.2.1.1).length ≤ 17179869184 ∧ (digs p.2.2.1).length ≤ 17179869184 ∧ Nat.gcd p.2.1.1 p.2.2.1 * 2 ^ k = Nat.gcd (val x) (val y)) (fun p => p.2.1.1 + p.2.2.1) (false, (a, pa), (b, pb)) ?_ ?_ ?_
        · exact weak_lit (by simp [okS, okV, okC, okL, okH, okB, okE, mkV_cons, mkV_nil, mkH_cons, mkH_nil, wsA, ws]) ⟨okB_wc rfl, okB_wc rfl, trivial⟩
        · exact ⟨hb, by simp only; omega, by simp only; omega, by simp only; omega, hg⟩
        clear hax hby hak hal hbl hap hbp hg ha hb hodd
        rintro ⟨sw, ⟨a, pa⟩, ⟨b, pb⟩⟩ ⟨hb, hodd, hal, hbl, hg⟩
        simp only at hb hodd hal hbl hg
        cases sw with
        | false =>
          simp only [go_sem, hh, hcm, hk, hu, hp, and32_1, val_digs, List.length_append, Nat.le_add_right, List.take_left]
          refine fun _ => ⟨fun hap => ?_, fun hap => ?_⟩
          · have ha : a ≠ 0 := fun e => by rw [e, digs_zero] at hap; simp at hap
            refine wpA_loop (fun p : Nat × List Nat => ⟨mkV [(0, .one (.own 7 1 1 0 (digs p.1).length)), (1, .one (.own 9 1 1 0 (digs b).length)), (5, .one (.lit (.int .i64 k)))], mkH [(7, ⟨1, some ⟨(digs p.1 ++ p.2).map wc, 1, true⟩⟩), (9, ⟨1, some ⟨(digs b ++ pb).map wc, 1, true⟩⟩)]⟩)
              (fun p => p.1 ≠ 0 ∧ p.1 ≤ a ∧ (p.1 % 2 ≠ 0 ∨ b % 2 ≠ 0) ∧ Nat.gcd p.1 b * 2 ^ k = Nat.gcd (val x) (val y)) (fun p => p.1) (a, pa) ?_ ?_ ?_
            · exact weak_lit (by simp [okS, okV, okC, okL, okH, okB, okE, mkV_cons, mkV_nil, mkH_cons, mkH_nil, wsA, ws]) ⟨okB_wc rfl, okB_wc rfl, trivial⟩
            · exact ⟨ha, Nat.le_refl _, hodd, hg⟩
            · rintro ⟨a', pa⟩ ⟨ha', haa, hodd, hg⟩
              simp only at ha' haa hodd hg
              have hap := digs_pos_len ha'
              simp only [go_sem, hh, hcm, hk, hu, hp, and32_1, val_digs, List.length_append, Nat.le_add_right, List.take_left, digs_head ha', hap]
              refine ⟨by omega, by omega, Nat.mod_lt _ (by omega), fun he => ?_, fun hao => ?_⟩
              · simp only [halve_G]
                refine ⟨digs a', pa, rfl, by simp [mkH_cons], digs_WL _, by have := digs_len_mono haa; omega, fun pa' => ?_⟩
                simp only [go_sem, hh, hcm, hk, hu, hp, and32_1, val_digs, List.length_append, Nat.le_add_right, List.take_left]
                refine ⟨(a' / 2, pa'), weak_lit (by simp [okS, okV, okC, okL, okH, okB, okE, mkV_cons, mkV_nil, mkH_cons, mkH_nil, wsA, ws]) ⟨okB_wc rfl, okB_wc rfl, trivial⟩, ⟨by simp only; omega, by simp only; omega, .inr (by omega), ?_⟩, by simp only; omega⟩
                rw [← hg]; simp only; rw [gcd_eo (by omega) (by omega)]
              · refine wpA_loop (fun p : Nat × List Nat => ⟨mkV [(0, .one (.own 7 1 1 0 (digs a').length)), (1, .one (.own 9 1 1 0 (digs p.1).length)), (5, .one (.lit (.int .i64 k)))], mkH [(7, ⟨1, some ⟨(digs a' ++ pa).map wc, 1, true⟩⟩), (9, ⟨1, some ⟨(digs p.1 ++ p.2).map wc, 1, true⟩⟩)]⟩)
                  (fun p => p.1 ≠ 0 ∧ p.1 ≤ b ∧ Nat.gcd a' p.1 * 2 ^ k = Nat.gcd (val x) (val y)) (fun p => p.1) (b, pb) ?_ ?_ ?_
                · exact weak_lit (by simp [okS, okV, okC, okL, okH, okB, okE, mkV_cons, mkV_nil, mkH_cons, mkH_nil, wsA, ws]) ⟨okB_wc rfl, okB_wc rfl, trivial⟩
                · exact ⟨hb, Nat.le_refl _, hg⟩
                · rintro ⟨b', pb⟩ ⟨hb', hbb, hg⟩
                  simp only at hb' hbb hg
                  have hbp := digs_pos_len hb'
                  simp only [go_sem, hh, hcm, hk, hu, hp, and32_1, val_digs, List.length_append, Nat.le_add_right, List.take_left, digs_head hb', hbp]
                  refine ⟨by omega, by omega, Nat.mod_lt _ (by omega), fun he => ?_, fun hbo => ?_⟩
                  · simp only [halve_G]
                    refine ⟨digs b', pb, rfl, by simp [mkH_cons], digs_WL _, by have := digs_len_mono hbb; omega, fun pb' => ?_⟩
                    simp only [go_sem, hh, hcm, hk, hu, hp, and32_1, val_digs, List.length_append, Nat.le_add_right, List.take_left]
                    refine ⟨(b' / 2, pb'), weak_lit (by simp [okS, okV, okC, okL, okH, okB, okE, mkV_cons, mkV_nil, mkH_cons, mkH_nil, wsA, ws]) ⟨okB_wc rfl, okB_wc rfl, trivial⟩, ⟨by simp only; omega, by simp only; omega, ?_⟩, by simp only; omega⟩
                    rw [← hg]; simp only; rw [gcd_oe (by omega) (by omega)]
                  · have hlb := digs_len_mono hbb
                    have hla := digs_len_mono haa
                    refine ⟨digs_WL _, digs_WL _, fun hlt => ?_, fun hge => ?_⟩
                    · have hlt := ordN_neg.1 hlt
                      simp only [take_G]
                      have e : val (dig (digs b').length (val (digs b') - val (digs a'))) = b' - a' := by
                        rw [val_dig, val_digs, val_digs, Nat.mod_eq_of_lt]
                        exact Nat.lt_of_le_of_lt (Nat.sub_le _ _) (lt_digs_len b')
                      refine ⟨digs b', pb, digs a', pa, by decide, rfl, by simp [mkH_cons], digs_WL _, by omega, rfl, by simp [mkH_cons], digs_WL _, by rw [val_digs, val_digs]; omega, ?_⟩
                      refine ⟨dig (digs b').length (val (digs b') - val (digs a')), pb, (dig_length _ _).symm, by simp [upd, mkH_cons], dig_WL _ _, by omega, fun post' => ?_⟩
                      simp only [go_sem, e]
                      have hle := Nat.le_trans (digs_len_mono (Nat.sub_le b' a')) (digs_len_mono hbb)
                      refine ⟨(true, (b' - a', post'), (a', pa)), weak_lit (by simp [okS, okV, okC, okL, okH, okB, okE, mkV_cons, mkV_nil, mkH_cons, mkH_nil, wsA, ws]) ⟨okB_wc rfl, okB_wc rfl, trivial⟩, ⟨ha', .inr (by simp only; omega), by simp only; omega, by simp only; omega, ?_⟩, by simp only; omega⟩
                      simp only
                      rw [gcd_sub (by omega), Nat.gcd_comm]; exact hg
                    · have hge := mt ordN_neg.2 hge
                      simp only [take_G]
                      have e : val (dig (digs a').length (val (digs a') - val (digs b'))) = a' - b' := by
                        rw [val_dig, val_digs, val_digs, Nat.mod_eq_of_lt]
                        exact Nat.lt_of_le_of_lt (Nat.sub_le _ _) (lt_digs_len a')
                      refine ⟨digs a', pa, digs b', pb, by decide, rfl, by simp [mkH_cons], digs_WL _, by omega, rfl, by simp [mkH_cons], digs_WL _, by rw [val_digs, val_digs]; omega, ?_⟩
                      refine ⟨dig (digs a').length (val (digs a') - val (digs b')), pa, (dig_length _ _).symm, by simp [upd, mkH_cons], dig_WL _ _, by omega, fun post' => ?_⟩
                      simp only [go_sem, e]
                      have hle := Nat.le_trans (digs_len_mono (Nat.sub_le a' b')) (digs_len_mono haa)
                      refine ⟨(false, (a' - b', post'), (b', pb)), weak_lit (by simp [okS, okV, okC, okL, okH, okB, okE, mkV_cons, mkV_nil, mkH_cons, mkH_nil, wsA, ws]) ⟨okB_wc rfl, okB_wc rfl, trivial⟩, ⟨hb', .inr (by simp only; omega), by simp only; omega, by simp only; omega, ?_⟩, by simp only; omega⟩
                      simp only
                      rw [gcd_sub (by omega)]; exact hg
          · have ha : a = 0 := digs_len0.1 (by omega)
            rw [ha, Nat.gcd_zero_left] at hg
            refine wpA_loop (fun j : Nat => ⟨mkV [(1, .one (ws (digs (b * 2 ^ j)))), (64, .one (.lit (.int .i64 k))), (65, .one (.lit (.int .i64 j)))], mkH []⟩) (fun j => j ≤ k) (fun j => k - j) 0 ?_ ?_ ?_
            · exact weak_lit (by simp [okS, okV, okC, okL, okH, okB, okE, mkV_cons, mkV_nil, mkH_cons, mkH_nil, wsA, ws]) trivial
            · exact Nat.zero_le _
            · rintro j hj
              simp only [go_sem, hh, hcm, hk, hu, hp, and32_1, val_digs, List.length_append, Nat.le_add_right, List.take_left]
              refine ⟨fun hlt => ?_, fun hge => ?_⟩
              · have hj1 : b * 2 ^ (j + 1) ≤ val x := by
                  refine Nat.le_trans (Nat.mul_le_mul_left b (Nat.pow_le_pow_right (by omega) hlt)) ?_
                  rw [hg]; exact Nat.le_of_dvd (by omega) (Nat.gcd_dvd_left _ _)
                have e : b * 2 ^ j + b * 2 ^ j = b * 2 ^ (j + 1) := by rw [Nat.pow_succ, ← Nat.mul_assoc]; omega
                have hl1 := Nat.le_trans (digs_len_mono (show b * 2 ^ j ≤ val x by omega)) hxv
                rw [e]
                refine ⟨digs_WL _, digs_WL _, by omega, by omega, by omega, j + 1, weak_lit (by simp [okS, okV, okC, okL, okH, okB, okE, mkV_cons, mkV_nil, mkH_cons, mkH_nil, wsA, ws]) trivial, by omega, by omega⟩
              · have e : j = k := by omega
                rw [e, hg]; exact hK
        | true =>
          simp only [go_sem, hh, hcm, hk, hu, hp, and32_1, val_digs, List.length_append, Nat.le_add_right, List.take_left]
          refine fun _ => ⟨fun hap => ?_, fun hap => ?_⟩
          · have ha : a ≠ 0 := fun e => by rw [e, digs_zero] at hap; simp at hap
            refine wpA_loop (fun p : Nat × List Nat => ⟨mkV [(0, .one (.own 9 1 1 0 (digs p.1).length)), (1, .one (.own 7 1 1 0 (digs b).length)), (5, .one (.lit (.int .i64 k)))], mkH [(9, ⟨1, some ⟨(digs p.1 ++ p.2).map wc, 1, true⟩⟩), (7, ⟨1, some ⟨(digs b ++ pb).map wc, 1, true⟩⟩)]⟩)
              (fun p => p.1 ≠ 0 ∧ p.1 ≤ a ∧ (p.1 % 2 ≠ 0 ∨ b % 2 ≠ 0) ∧ Nat.gcd p.1 b * 2 ^ k = Nat.gcd (val x) (val y)) (fun p => p.1) (a, pa) ?_ ?_ ?_
            · exact weak_lit (by simp [okS, okV, okC, okL, okH, okB, okE, mkV_cons, mkV_nil, mkH_cons, mkH_nil, wsA, ws]) ⟨okB_wc rfl, okB_wc rfl, trivial⟩
            · exact ⟨ha, Nat.le_refl _, hodd, hg⟩
            · rintro ⟨a', pa⟩ ⟨ha', haa, hodd, hg⟩
              simp only at ha' haa hodd hg
              have hap := digs_pos_len ha'
              simp only [go_sem, hh, hcm, hk, hu, hp, and32_1, val_digs, List.length_append, Nat.le_add_right, List.take_left, digs_head ha', hap]
              refine ⟨by omega, by omega, Nat.mod_lt _ (by omega), fun he => ?_, fun hao => ?_⟩
              · simp only [halve_G]
                refine ⟨digs a', pa, rfl, by simp [mkH_cons], digs_WL _, by have := digs_len_mono haa; omega, fun pa' => ?_⟩
                simp only [go_sem, hh, hcm, hk, hu, hp, and32_1, val_digs, List.length_append, Nat.le_add_right, List.take_left]
                refine ⟨(a' / 2, pa'), weak_lit (by simp [okS, okV, okC, okL, okH, okB, okE, mkV_cons, mkV_nil, mkH_cons, mkH_nil, wsA, ws]) ⟨okB_wc rfl, okB_wc rfl, trivial⟩, ⟨by simp only; omega, by simp only; omega, .inr (by omega), ?_⟩, by simp only; omega⟩
                rw [← hg]; simp only; rw [gcd_eo (by omega) (by omega)]
              · refine wpA_loop (fun p : Nat × List Nat => ⟨mkV [(0, .one (.own 9 1 1 0 (digs a').length)), (1, .one (.own 7 1 1 0 (digs p.1).length)), (5, .one (.lit (.int .i64 k)))], mkH [(9, ⟨1, some ⟨(digs a' ++ pa).map wc, 1, true⟩⟩), (7, ⟨1, some ⟨(digs p.1 ++ p.2).map wc, 1, true⟩⟩)]⟩)
                  (fun p => p.1 ≠ 0 ∧ p.1 ≤ b ∧ Nat.gcd a' p.1 * 2 ^ k = Nat.gcd (val x) (val y)) (fun p => p.1) (b, pb) ?_ ?_ ?_
                · exact weak_lit (by simp [okS, okV, okC, okL, okH, okB, okE, mkV_cons, mkV_nil, mkH_cons, mkH_nil, wsA, ws]) ⟨okB_wc rfl, okB_wc rfl, trivial⟩
                · exact ⟨hb, Nat.le_refl _, hg⟩
                · rintro ⟨b', pb⟩ ⟨hb', hbb, hg⟩
                  simp only at hb' hbb hg
                  have hbp := digs_pos_len hb'
                  simp only [go_sem, hh, hcm, hk, hu, hp, and32_1, val_digs, List.length_append, Nat.le_add_right, List.take_left, digs_head hb', hbp]
                  refine ⟨by omega, by omega, Nat.mod_lt _ (by omega), fun he => ?_, fun hbo => ?_⟩
                  · simp only [halve_G]
                    refine ⟨digs b', pb, rfl, by simp [mkH_cons], digs_WL _, by have := digs_len_mono hbb; omega, fun pb' => ?_⟩
                    simp only [go_sem, hh, hcm, hk, hu, hp, and32_1, val_digs, List.length_append, Nat.le_add_right, List.take_left]
                    refine ⟨(b' / 2, pb'), weak_lit (by simp [okS, okV, okC, okL, okH, okB, okE, mkV_cons, mkV_nil, mkH_cons, mkH_nil, wsA, ws]) ⟨okB_wc rfl, okB_wc rfl, trivial⟩, ⟨by simp only; omega, by simp only; omega, ?_⟩, by simp only; omega⟩
                    rw [← hg]; simp only; rw [gcd_oe (by omega) (by omega)]
                  · have hlb := digs_len_mono hbb
                    have hla := digs_len_mono haa
                    refine ⟨digs_WL _, digs_WL _, fun hlt => ?_, fun hge => ?_⟩
                    · have hlt := ordN_neg.1 hlt
                      simp only [take_G]
                      have e : val (dig (digs b').length (val (digs b') - val (digs a'))) = b' - a' := by
                        rw [val_dig, val_digs, val_digs, Nat.mod_eq_of_lt]
                        exact Nat.lt_of_le_of_lt (Nat.sub_le _ _) (lt_digs_len b')
                      refine ⟨digs b', pb, digs a', pa, by decide, rfl, by simp [mkH_cons], digs_WL _, by omega, rfl, by simp [mkH_cons], digs_WL _, by rw [val_digs, val_digs]; omega, ?_⟩
                      refine ⟨dig (digs b').length (val (digs b') - val (digs a')), pb, (dig_length _ _).symm, by simp [upd, mkH_cons], dig_WL _ _, by omega, fun post' => ?_⟩
                      simp only [go_sem, e]
                      have hle := Nat.le_trans (digs_len_mono (Nat.sub_le b' a')) (digs_len_mono hbb)
                      refine ⟨(false, (b' - a', post'), (a', pa)), weak_lit (by simp [okS, okV, okC, okL, okH, okB, okE, mkV_cons, mkV_nil, mkH_cons, mkH_nil, wsA, ws]) ⟨okB_wc rfl, okB_wc rfl, trivial⟩, ⟨ha', .inr (by simp only; omega), by simp only; omega, by simp only; omega, ?_⟩, by simp only; omega⟩
                      simp only
                      rw [gcd_sub (by omega), Nat.gcd_comm]; exact hg
                    · have hge := mt ordN_neg.2 hge
                      simp only [take_G]
                      have e : val (dig (digs a').length (val (digs a') - val (digs b'))) = a' - b' := by
                        rw [val_dig, val_digs, val_digs, Nat.mod_eq_of_lt]
                        exact Nat.lt_of_le_of_lt (Nat.sub_le _ _) (lt_digs_len a')
                      refine ⟨digs a', pa, digs b', pb, by decide, rfl, by simp [mkH_cons], digs_WL _, by omega, rfl, by simp [mkH_cons], digs_WL _, by rw [val_digs, val_digs]; omega, ?_⟩
                      refine ⟨dig (digs a').length (val (digs a') - val (digs b')), pa, (dig_length _ _).symm, by simp [upd, mkH_cons], dig_WL _ _, by omega, fun post' => ?_⟩
                      simp only [go_sem, e]
                      have hle := Nat.le_trans (digs_len_mono (Nat.sub_le a' b')) (digs_len_mono haa)
                      refine ⟨(true, (a' - b', post'), (b', pb)), weak_lit (by simp [okS, okV, okC, okL, okH, okB, okE, mkV_cons, mkV_nil, mkH_cons, mkH_nil, wsA, ws]) ⟨okB_wc rfl, okB_wc rfl, trivial⟩, ⟨hb', .inr (by simp only; omega), by simp only; omega, by simp only; omega, ?_⟩, by simp only; omega⟩
                      simp only
                      rw [gcd_sub (by omega)]; exact hg
          · have ha : a = 0 := digs_len0.1 (by omega)
            rw [ha, Nat.gcd_zero_left] at hg
            refine wpA_loop (fun j : Nat => ⟨mkV [(1, .one (ws (digs (b * 2 ^ j)))), (64, .one (.lit (.int .i64 k))), (65, .one (.lit (.int .i64 j)))], mkH []⟩) (fun j => j ≤ k) (fun j => k - j) 0 ?_ ?_ ?_
            · exact weak_lit (by simp [okS, okV, okC, okL, okH, okB, okE, mkV_cons, mkV_nil, mkH_cons, mkH_nil, wsA, ws]) trivial
            · exact Nat.zero_le _
            · rintro j hj
              simp only [go_sem, hh, hcm, hk, hu, hp, and32_1, val_digs, List.length_append, Nat.le_add_right, List.take_left]
              refine ⟨fun hlt => ?_, fun hge => ?_⟩
              · have hj1 : b * 2 ^ (j + 1) ≤ val x := by
                  refine Nat.le_trans (Nat.mul_le_mul_left b (Nat.pow_le_pow_right (by omega) hlt)) ?_
                  rw [hg]; exact Nat.le_of_dvd (by omega) (Nat.gcd_dvd_left _ _)
                have e : b * 2 ^ j + b * 2 ^ j = b * 2 ^ (j + 1) := by rw [Nat.pow_succ, ← Nat.mul_assoc]; omega
                have hl1 := Nat.le_trans (digs_len_mono (show b * 2 ^ j ≤ val x by omega)) hxv
                rw [e]
                refine ⟨digs_WL _, digs_WL _, by omega, by omega, by omega, j + 1, weak_lit (by simp [okS, okV, okC, okL, okH, okB, okE, mkV_cons, mkV_nil, mkH_cons, mkH_nil, wsA, ws]) trivial, by omega, by omega⟩
              · have e : j = k := by omega
                rw [e, hg]; exact hK
end Go.Abs
end
section
set_option linter.unusedVariables false
set_option linter.unusedSimpArgs false
set_option maxRecDepth 100000
namespace Go.Abs
open Go.Num
variable {P : Program} {Γ : Nat → Spec}
def ac_linkworkref01_divide (f0 f1 f2 f3 : Nat) : AC := (.seq (.ops false [.m 4 (.c (.one .emp)), .m 5 (.c (.one .emp))])
 (.fg [0, 1] (.seq (.ops false [.m 11 (.t 0), .u 12 (.len (.t 11)), .u 13 (.mk 1 [(.lit (.int .u32 0))] (.t 12) (.t 12)), .m 6 (.t 13)])
 (.fg [0, 1, 6] (.seq (.ops false [.m 14 (.t 1), .u 15 (.len (.t 14)), .u 16 (.bin .add (.t 15) (.i 1)), .u 17 (.mk 1 [(.lit (.int .u32 0))] (.t 16) (.t 16)), .m 7 (.t 17)])
 (.fg [0, 1, 6, 7] (.seq (.seq (.ops false [.m 18 (.t 0), .u 19 (.call f0 [(.t 18)]), .u 20 (.bin .sub (.t 19) (.i 1)), .m 8 (.t 20)])
 (.fg [0, 1, 6, 7, 8] (.block 0 (.loop (.seq (.seq (.ops false [.m 21 (.t 8), .u 22 (.bin .geq (.t 21) (.i 0))])
 (.fg [0, 1, 6, 7, 8, 22] (.cond (.t 22) .skip (.exit 0))))
 (.fg [0, 1, 6, 7, 8] (.seq (.block 1 (.seq (.ops false [.m 25 (.t 0), .m 26 (.t 8), .u 27 (.bin .quo (.t 26) (.i 32)), .u 28 (.idx 1 (.t 25) (.t 27)), .u 29 (.ld none 1 false (.t 28)), .m 30 (.t 8), .u 31 (.bin .rem (.t 30) (.i 32)), .u 32 (.bin .shr (.t 29) (.t 31)), .u 33 (.bin .and (.t 32) (.c (.one (.lit (.int .u32 1))))), .m 9 (.t 33)])
 (.fg [0, 1, 6, 7, 8, 9] (.seq (.seq (.ops false [.m 34 (.t 7), .u 35 (.len (.t 34)), .m 36 (.i 0)])
 (.fg [0, 1, 6, 7, 8, 9, 35, 36] (.block 2 (.loop (.seq (.ops false [.u 37 (.bin .lss (.t 36) (.t 35))])
 (.fg [0, 1, 6, 7, 8, 9, 35, 36, 37] (.seq (.cond (.t 37) .skip (.exit 2))
 (.fg [0, 1, 6, 7, 8, 9, 35, 36] (.seq (.block 3 (.seq (.ops false [.m 38 (.t 36), .m 10 (.t 38)])
 (.fg [0, 1, 6, 7, 8, 9, 10, 35, 36] (.ops true [.m 39 (.t 7), .m 40 (.t 10), .m 41 (.t 7), .m 42 (.t 10), .u 43 (.idx 1 (.t 41) (.t 42)), .u 44 (.ld none 1 false (.t 43)), .u 45 (.bin .shl (.t 44) (.c (.one (.lit (.int .u64 1))))), .m 46 (.t 9), .u 47 (.bin .or (.t 45) (.t 46)), .m 48 (.t 7), .m 49 (.t 10), .u 50 (.idx 1 (.t 48) (.t 49)), .u 51 (.ld none 1 false (.t 50)), .u 52 (.bin .shr (.t 51) (.c (.one (.lit (.int .u64 31))))), .u 53 (.idx 1 (.t 39) (.t 40)), .n (.st none 1 (.t 53) (.t 47)), .m 9 (.t 52)]))))
 (.fg [0, 1, 6, 7, 8, 9, 35, 36] (.ops false [.u 54 (.bin .add (.t 36) (.i 1)), .m 36 (.t 54)])))))))))))
 (.fg [0, 1, 6, 7, 8] (.seq (.ops false [.m 55 (.t 7), .m 56 (.t 1), .u 57 (.call f1 [(.t 55), (.t 56)]), .u 58 (.bin .geq (.t 57) (.i 0))])
 (.fg [0, 1, 6, 7, 8, 58] (.cond (.t 58) (.seq (.ops false [.m 59 (.t 7), .m 60 (.t 1), .u 61 (.call f2 [(.t 59), (.t 60)])])
 (.fg [0, 1, 6, 7, 8] (.ops true [.m 62 (.t 6), .m 63 (.t 8), .u 64 (.bin .quo (.t 63) (.i 32)), .u 65 (.idx 1 (.t 62) (.t 64)), .u 66 (.ld none 1 false (.t 65)), .m 67 (.t 8), .u 68 (.bin .rem (.t 67) (.i 32)), .u 69 (.bin .shl (.c (.one (.lit (.int .u32 1)))) (.t 68)), .u 70 (.bin .or (.t 66) (.t 69)), .u 71 (.idx 1 (.t 62) (.t 64)), .n (.st none 1 (.t 71) (.t 70))]))) .skip))))))))
 (.fg [0, 1, 6, 7, 8] (.ops false [.m 23 (.t 8), .u 24 (.bin .sub (.t 23) (.i 1)), .m 8 (.t 24)])))))))))
 (.fg [6, 7] (.seq (.ops false [.m 72 (.t 6), .u 73 (.callf f3 [(.t 72)]), .m 74 (.t 7), .u 75 (.callf f3 [(.t 74)]), .m 4 (.t 73), .m 5 (.t 75)])
 .ret)))))))))
theorem divide01_sound (hΓ : Holds P Γ) {f fb fc fk ft : Nat} (hb : Γ fb = .dat true bits01_G) (hcm : Γ fc = .dat true cmp01_G) (hk : Γ fk = .own take_G) (ht : Γ ft = .fresh 1 tr01_G)
  (hc : check P f = some (76, (ac_linkworkref01_divide fb fc fk ft).strip, [.tmp 4, .tmp 5])) : Sound P f (.dat false divide_G) := by
 refine sound_dat hc divide_good hΓ (fun args K hcl hfi hG => ?_)
 match args, hG with
 | [a, b], hG =>
  obtain ⟨x, rfl, hx, y, rfl, hy, hnx, hny, hy0, hxl, hyl, hK⟩ := hG
  refine ⟨by simp, ?_⟩
  simp only [go_sem, ac_linkworkref01_divide, hb, hcm, hk, ht]
  intro h1
  refine ⟨by omega, fun _ => ⟨by omega, by omega, hx, by omega, ?_⟩⟩
  obtain ⟨n, hn⟩ : ∃ n, (if x.length = 0 then 0 else 32 * (x.length - 1) + bln (x.getD (x.length - 1) 0)) = n := ⟨_, rfl⟩
  have hnlt : val x < 2 ^ n := by
   rw [← hn]; split
   ·rename_i h0; rw [List.eq_nil_of_length_eq_zero h0]; simp [val]
   ·exact bits_lt hx ‹_›
  have hnb : n ≤ 32 * x.length := by
   rw [← hn]; split
   ·omega
   ·have := bln_le (k := 32) (n := x.getD (x.length - 1) 0) (WL_getD hx _); omega
  have hy1 : 0 < val y := by
   have := val_pos_of_NZ hny hy0; omega
  rw [hn]
  refine ⟨by omega, ?_⟩
  refine wpA_loop (fun p : Nat × List Nat × List Nat => ⟨mkV [(0, wsA x), (1, wsA y), (6, .one (.own 13 1 1 0 x.length)), (7, .one (.own 17 1 1 0 (y.length + 1))), (8, .one (.lit (.int .i64 ((p.1 : Int) - 1))))], mkH [(13, ⟨1, some ⟨p.2.1.map wc, 1, true⟩⟩), (17, ⟨1, some ⟨p.2.2.map wc, 1, true⟩⟩)]⟩)
   (fun p => p.1 ≤ n ∧ WL p.2.1 ∧ p.2.1.length = x.length ∧ val p.2.1 = val x / 2 ^ p.1 / val y * 2 ^ p.1 ∧ WL p.2.2 ∧ p.2.2.length = y.length + 1 ∧ val p.2.2 = val x / 2 ^ p.1 % val y) (fun p => p.1) (n, List.replicate x.length 0, List.replicate (y.length + 1) 0) ?_ ?_ ?_
  ·exact weak_lit (by simp [okS, okV, okC, okL, okH, okB, okE, mkV_cons, mkV_nil, mkH_cons, mkH_nil, wsA, ws]) ⟨okB_wc (by simp), okB_wc (by simp), trivial⟩
  ·simp [WL_rep, val_rep, Nat.div_eq_of_lt hnlt]
  ·rintro ⟨n', q, r⟩ ⟨hn', hq, hql, hqv, hr, hrl, hrv⟩
   simp only at hn' hq hql hqv hr hrl hrv
   cases n' with
   | zero =>
    have e : ((0 : Nat) : Int) - 1 = -1 := rfl
    have e' : ((0 : Int) ≤ -1) = False := by simp
    simp only [go_sem, hb, hcm, hk, ht, e, e', hql, hrl]
    simp only [Nat.pow_zero, Nat.div_one, Nat.mul_one] at hqv hrv
    rw [hqv, hrv]
    exact ⟨hq, by omega, hr, by omega, hK⟩
   | succ i =>
    have e : ((i + 1 : Nat) : Int) - 1 = (i : Int) := by omega
    have e1 : (i : Int) / 32 = ((i / 32 : Nat) : Int) := rfl
    have e2 : (i : Int) % 32 = ((i % 32 : Nat) : Int) := rfl
    have e3 := bit_at hx i
    have hi32 : i / 32 < x.length := by omega
    have hib : i % 32 < 32 := Nat.mod_lt _ (by omega)
    simp only [go_sem, hb, hcm, hk, ht, e, e1, e2, e3, and32_1, hql, hrl]
    have g1 := WL_getD hx (i / 32)
    have g2 : x.getD (i / 32) 0 / 2 ^ (i % 32) < 2 ^ IntKind.u32.bits := Nat.lt_of_le_of_lt (Nat.div_le_self _ _) g1
    have g3 : ((i % 32 : Nat) : Int) ≤ IntKind.u32.bits := by have : IntKind.u32.bits = 32 := rfl; omega
    refine ⟨by decide, by omega, hi32, by decide, by omega, g2, fun hyl' => ?_⟩
    generalize hbit : val x / 2 ^ i % 2 = bit
    have hbit1 : bit ≤ 1 := by omega
    refine wpA_loop (fun p : List Nat × Nat => ⟨mkV [(0, wsA x), (1, wsA y), (6, .one (.own 13 1 1 0 x.length)), (7, .one (.own 17 1 1 0 (y.length + 1))), (8, .one (.lit (.int .i64 i))), (9, .one (.lit (.int .u32 p.2))), (35, .one (.lit (.int .i64 (y.length + 1 : Nat)))), (36, .one (.lit (.int .i64 p.1.length)))],
      mkH [(13, ⟨1, some ⟨q.map wc, 1, true⟩⟩), (17, ⟨1, some ⟨(p.1 ++ r.drop p.1.length).map wc, 1, true⟩⟩)]⟩)
     (fun p => p.1.length ≤ r.length ∧ WL p.1 ∧ p.2 ≤ 1 ∧ val p.1 + 4294967296 ^ p.1.length * p.2 = 2 * val (r.take p.1.length) + bit) (fun p => r.length - p.1.length) ([], bit) ?_ ?_ ?_
    ·exact weak_lit (by simp [okS, okV, okC, okL, okH, okB, okE, mkV_cons, mkV_nil, mkH_cons, mkH_nil, wsA, ws]) ⟨okB_wc rfl, okB_wc (by simp), trivial⟩
    ·simp [WL_nil, val, hbit1]
    ·rintro ⟨o, c⟩ ⟨hol, ho, hc1, hov⟩
     simp only at hol ho hc1 hov
     by_cases hlt : o.length < y.length + 1
     ·have g4 := WL_getD hr o.length
      simp only [go_sem, hb, hcm, hk, ht, len_od0 hol, hrl, hlt, get_od0, not_true, shl_or hc1, set_od0 _ (show o.length < r.length by omega)]
      refine ⟨⟨rfl, by decide, by decide⟩, ⟨rfl, Nat.mod_lt _ (by omega), by omega⟩, ⟨by decide, by decide⟩, by omega, (o ++ [r.getD o.length 0 * 2 % 4294967296 + c], r.getD o.length 0 / 2147483648), weak_lit (by simp [okS, okV, okC, okL, okH, okB, okE, mkV_cons, mkV_nil, mkH_cons, mkH_nil, wsA, ws]) ⟨okB_wc rfl, okB_wc rfl, trivial⟩, ⟨by simp; omega, WL_append.2 ⟨ho, WL_cons.2 ⟨by omega, WL_nil⟩⟩, by simp only; omega, ?_⟩, by simp; omega⟩
      simp only [List.length_append, List.length_cons, List.length_nil, Nat.zero_add, take_succ, val_append, val_cons, val_nil, Nat.mul_zero, Nat.add_zero, Nat.pow_succ]
      exact shl_step hov g4
     ·have hoe : o.length = y.length + 1 := by omega
      have hd : r.drop (y.length + 1) = [] := List.drop_of_length_le (by omega)
      simp only [go_sem, hb, hcm, hk, ht, hd, hoe, Nat.lt_irrefl, e1, e2]
      have hrlt : val r < val y := by rw [hrv]; exact Nat.mod_lt _ hy1
      have hylt := val_lt hy
      rw [List.take_of_length_le (by omega), hoe, Nat.pow_succ] at hov
      have hc0 : c = 0 := by
       rcases Nat.eq_zero_or_pos c with h | h
       ·exact h
       ·exfalso
        have : 4294967296 ^ y.length * 4294967296 * 1 ≤ 4294967296 ^ y.length * 4294967296 * c := Nat.mul_le_mul_left _ h
        omega
      subst hc0
      rw [Nat.mul_zero, Nat.add_zero] at hov
      refine ⟨ho, hy, fun h => ?_, fun h => ?_⟩
      ·have hge := ordN_ge.1 h
       have hs := div_step1 hy1 hbit hqv hrv (by omega)
       simp only [take_G, onWs_e]
       refine ⟨hy, o, [], hoe.symm, by simp [mkH_cons], ho, by omega, hge, ?_⟩
       have hp32 : 2 ^ (i % 32) < 4294967296 := Nat.lt_of_lt_of_le (Nat.pow_lt_pow_right (by omega) hib) (by decide)
       have e4 : (1 * 2 ^ (i % 32) % 4294967296 : Int) = ((2 ^ (i % 32) : Nat) : Int) := by
        rw [Int.one_mul, show ((2 : Int) ^ (i % 32)) = ((2 ^ (i % 32) : Nat) : Int) by rw [Int.natCast_pow]; rfl]
        generalize 2 ^ (i % 32) = w at hp32 ⊢
        omega
       have e5 := set_bit hib (low_bits hq hqv)
       have g5 := WL_getD hq (i / 32)
       simp only [go_sem, e1, e2, hql, dig_length, hoe, e4, e5]
       have hsv := val_set q (i / 32) (q.getD (i / 32) 0 + 2 ^ (i % 32)) (by omega)
       have hpp := pow_parts i
       rw [Nat.mul_add] at hsv
       have hv2 : val (q.set (i / 32) (q.getD (i / 32) 0 + 2 ^ (i % 32))) = val q + 2 ^ i := by omega
       have hsum : q.getD (i / 32) 0 + 2 ^ (i % 32) < 4294967296 := by
        rw [← e5]; exact Nat.or_lt_two_pow (n := 32) g5 hp32
       refine ⟨by decide, by omega, hi32, hi32, by decide, ⟨rfl, by decide, by omega⟩, ⟨rfl, g5, hp32⟩, hi32, hi32, ⟨by omega, by omega⟩, (i, q.set (i / 32) (q.getD (i / 32) 0 + 2 ^ (i % 32)), dig (y.length + 1) (val o - val y)), weak_lit (by simp [okS, okV, okC, okL, okH, okB, okE, mkV_cons, mkV_nil, mkH_cons, mkH_nil, wsA, ws]) ⟨okB_wc rfl, okB_wc rfl, trivial⟩, ⟨by simp only; omega, WL_set hq _ hsum, by simp [hql], ?_, dig_WL _ _, dig_length _ _, ?_⟩, by simp only; omega⟩
       ·simp only
        rw [hv2]; exact hs.1
       ·simp only
        rw [val_dig, hov, hs.2, Nat.mod_eq_of_lt]
        have := Nat.mod_lt (val x / 2 ^ i) hy1
        have h6 : (4294967296 : Nat) ^ y.length ≤ 4294967296 ^ (y.length + 1) := Nat.pow_le_pow_right (by omega) (by omega)
        omega
      ·have hlt2 := mt ordN_ge.2 h
       have hs := div_step0 hy1 hbit hqv hrv (by omega)
       refine ⟨by omega, (i, q, o), weak_lit (by simp [okS, okV, okC, okL, okH, okB, okE, mkV_cons, mkV_nil, mkH_cons, mkH_nil, wsA, ws]) ⟨okB_wc rfl, okB_wc rfl, trivial⟩, ⟨by simp only; omega, hq, hql, hs.1, ho, hoe, by simp only; rw [hov]; exact hs.2⟩, by simp only; omega⟩
end Go.Abs
end
section
set_option linter.unusedVariables false
set_option linter.unusedSimpArgs false
set_option maxRecDepth 100000
namespace Go.Abs
open Go.Num
variable {P : Program} {Γ : Nat → Spec}
def ac_linkworkref01_form (f0 : Nat) : AC := (.seq (.ops false [.u 4 (.alloc [(.lit (.bool false)), .emp])])
 (.fg [0, 1, 4] (.seq (.ops false [.m 5 (.t 1), .u 6 (.callf f0 [(.t 5)]), .m 1 (.t 6)])
 (.fg [0, 1, 4] (.seq (.seq (.ops false [.m 7 (.t 1), .u 8 (.len (.t 7)), .u 9 (.bin .eql (.t 8) (.i 0))])
 (.fg [0, 1, 4, 9] (.cond (.t 9) (.seq (.ops false [.u 10 (.build [.z [(.lit (.bool false)), .emp]]), .n (.st none 2 (.t 4) (.t 10))])
 .ret) .skip)))
 (.fg [0, 1, 4] (.seq (.ops false [.m 11 (.t 0), .m 12 (.t 1), .u 13 (.build [.x 1 (.t 11), .x 1 (.t 12)]), .n (.st none 2 (.t 4) (.t 13))])
 .ret)))))))
def ac_linkworkref01_Sign (f0 f1 : Nat) : AC := (.seq (.ops false [.u 1 (.box 2 (.t 0)), .m 2 (.i 0)])
 (.fg [1] (.seq (.seq (.ops false [.u 3 (.ld none 2 true (.t 1)), .u 4 (.call f0 [(.t 3)]), .u 5 (.len (.t 4)), .u 6 (.bin .eql (.t 5) (.i 0))])
 (.fg [1, 6] (.cond (.t 6) (.seq (.ops false [.m 2 (.i 0)])
 .ret) .skip)))
 (.fg [1] (.seq (.seq (.ops false [.u 7 (.ld none 2 true (.t 1)), .u 8 (.call f1 [(.t 7)])])
 (.fg [8] (.cond (.t 8) (.seq (.ops false [.m 2 (.i (-1))])
 .ret) .skip)))
 (.fg [] (.seq (.ops false [.m 2 (.i 1)])
 .ret)))))))
def ac_linkworkref01_Cmp (f0 f1 : Nat) : AC := (.seq (.ops false [.u 2 (.box 2 (.t 0)), .u 3 (.box 2 (.t 1)), .m 4 (.i 0)])
 (.fg [2, 3] (.seq (.ops false [.u 5 (.ld none 2 true (.t 2)), .u 6 (.ld none 2 true (.t 3)), .u 7 (.call f0 [(.t 5), (.t 6)]), .u 8 (.call f1 [(.t 7)]), .m 4 (.t 8)])
 .ret)))
def ac_linkworkref01_Add (f0 f1 f2 f3 f4 f5 : Nat) : AC := (.seq (.ops false [.u 2 (.box 2 (.t 0)), .u 3 (.box 2 (.t 1)), .u 4 (.alloc [(.lit (.bool false)), .emp])])
 (.fg [2, 3, 4] (.seq (.ops true [.u 7 (.ld none 2 true (.t 2)), .u 8 (.call f0 [(.t 7)]), .u 9 (.ld none 2 true (.t 3)), .u 10 (.call f0 [(.t 9)]), .m 5 (.t 8), .m 6 (.t 10)])
 (.fg [2, 3, 4, 5, 6] (.seq (.seq (.ops true [.u 11 (.ld none 2 true (.t 2)), .u 12 (.call f1 [(.t 11)]), .u 13 (.ld none 2 true (.t 3)), .u 14 (.call f1 [(.t 13)]), .u 15 (.binb .eql (.t 12) (.t 14))])
 (.fg [2, 3, 4, 5, 6, 15] (.cond (.t 15) (.seq (.ops false [.u 16 (.ld none 2 true (.t 2)), .u 17 (.call f1 [(.t 16)]), .m 18 (.t 5), .m 19 (.t 6), .u 20 (.call f2 [(.t 18), (.t 19)]), .u 21 (.call f3 [(.t 17), (.t 20)]), .n (.st none 2 (.t 4) (.t 21))])
 .ret) .skip)))
 (.fg [2, 3, 4, 5, 6] (.seq (.seq (.ops false [.m 22 (.t 5), .m 23 (.t 6), .u 24 (.call f4 [(.t 22), (.t 23)]), .u 25 (.bin .geq (.t 24) (.i 0))])
 (.fg [2, 3, 4, 5, 6, 25] (.cond (.t 25) (.seq (.ops false [.u 26 (.ld none 2 true (.t 2)), .u 27 (.call f1 [(.t 26)]), .m 28 (.t 5), .m 29 (.t 6), .u 30 (.call f5 [(.t 28), (.t 29)]), .u 31 (.call f3 [(.t 27), (.t 30)]), .n (.st none 2 (.t 4) (.t 31))])
 .ret) .skip)))
 (.fg [3, 4, 5, 6] (.seq (.ops false [.u 32 (.ld none 2 true (.t 3)), .u 33 (.call f1 [(.t 32)]), .m 34 (.t 6), .m 35 (.t 5), .u 36 (.call f5 [(.t 34), (.t 35)]), .u 37 (.call f3 [(.t 33), (.t 36)]), .n (.st none 2 (.t 4) (.t 37))])
 .ret)))))))))
def ac_linkworkref01_Sub (f0 f1 : Nat) : AC := (.seq (.ops false [.u 2 (.box 2 (.t 0)), .u 3 (.box 2 (.t 1)), .u 4 (.alloc [(.lit (.bool false)), .emp])])
 (.fg [2, 3, 4] (.seq (.ops true [.u 5 (.ld none 2 true (.t 2)), .u 6 (.ld none 2 true (.t 3)), .u 7 (.call f0 [(.t 6)]), .u 8 (.call f1 [(.t 5), (.t 7)]), .n (.st none 2 (.t 4) (.t 8))])
 .ret)))
def ac_linkworkref01_Gcd (f0 f1 f2 : Nat) : AC := (.seq (.ops false [.u 2 (.box 2 (.t 0)), .u 3 (.box 2 (.t 1)), .u 4 (.alloc [(.lit (.bool false)), .emp])])
 (.fg [2, 3, 4] (.seq (.ops true [.u 5 (.ld none 2 true (.t 2)), .u 6 (.call f0 [(.t 5)]), .u 7 (.ld none 2 true (.t 3)), .u 8 (.call f0 [(.t 7)]), .u 9 (.call f1 [(.t 6), (.t 8)]), .u 10 (.call f2 [.fa, (.t 9)]), .n (.st none 2 (.t 4) (.t 10))])
 .ret)))
def ac_linkworkref01_Div (f0 f1 f2 f3 f4 f5 f6 : Nat) : AC := (.seq (.ops false [.u 2 (.box 2 (.t 0)), .u 3 (.box 2 (.t 1)), .u 4 (.alloc [(.lit (.bool false)), .emp]), .u 5 (.alloc [(.lit (.bool false)), .emp]), .m 6 (.i 0)])
 (.fg [2, 3, 4, 5] (.seq (.seq (.ops false [.u 9 (.ld none 2 true (.t 3)), .u 10 (.call f0 [(.t 9)]), .u 11 (.bin .eql (.t 10) (.i 0))])
 (.fg [2, 3, 4, 5, 11] (.cond (.t 11) (.seq (.ops false [.u 12 (.build [.z [(.lit (.bool false)), .emp]]), .u 13 (.build [.z [(.lit (.bool false)), .emp]]), .n (.st none 2 (.t 4) (.t 12)), .n (.st none 2 (.t 5) (.t 13)), .m 6 (.i 8)])
 .ret) .skip)))
 (.fg [2, 3, 4, 5] (.seq (.ops true [.u 15 (.ld none 2 true (.t 2)), .u 16 (.call f1 [(.t 15)]), .u 17 (.ld none 2 true (.t 3)), .u 18 (.call f1 [(.t 17)]), .u 19 (.call f2 [(.t 16), (.t 18)]), .m 14 (.t 19), .u 20 (.ext 0 (.t 14)), .u 21 (.ext 1 (.t 14)), .m 7 (.t 20), .m 8 (.t 21)])
 (.fg [2, 3, 4, 5, 7, 8] (.seq (.seq (.ops false [.u 22 (.ld none 2 true (.t 2)), .u 23 (.call f3 [(.t 22)]), .m 24 (.t 23), .w 25 24 true (.mv (.t 8)), .w 26 24 true (.len (.t 25)), .w 27 24 true (.bin .gtr (.t 26) (.i 0)), .u 28 (.pick (.t 24) (.t 27) .fa)])
 (.fg [2, 3, 4, 5, 7, 8, 28] (.cond (.t 28) (.ops true [.m 29 (.t 7), .u 30 (.row 1 [[.x 1 (.c (.one (.lit (.int .u32 1))))]]), .u 31 (.call f4 [(.t 29), (.t 30)]), .u 32 (.ld none 2 true (.t 3)), .u 33 (.call f1 [(.t 32)]), .m 34 (.t 8), .u 35 (.call f5 [(.t 33), (.t 34)]), .m 7 (.t 31), .m 8 (.t 35)]) .skip)))
 (.fg [2, 3, 4, 5, 7, 8] (.seq (.ops true [.u 36 (.ld none 2 true (.t 2)), .u 37 (.call f3 [(.t 36)]), .u 38 (.ld none 2 true (.t 3)), .u 39 (.call f3 [(.t 38)]), .u 40 (.binb .neq (.t 37) (.t 39)), .m 41 (.t 7), .u 42 (.call f6 [(.t 40), (.t 41)]), .m 43 (.t 8), .u 44 (.call f6 [.fa, (.t 43)]), .n (.st none 2 (.t 4) (.t 42)), .n (.st none 2 (.t 5) (.t 44)), .m 6 (.i 0)])
 .ret)))))))))
theorem form01_sound (hΓ : Holds P Γ) {f ft : Nat} (ht : Γ ft = .fresh 1 tr01_G) (hc : check P f = some (14, (ac_linkworkref01_form ft).strip, [.cell 4 2 true])) : Sound P f (.dat false whole_G) := by
 refine sound_dat hc whole_good hΓ (fun args K hcl hfi hG => ?_)
 match args, hG with
 | [a, m], hG =>
  obtain ⟨b, rfl, hG⟩ := asBool_inv hG
  obtain ⟨l, rfl, hl, hlen, hK⟩ := hG
  refine ⟨by simp, ?_⟩
  simp only [go_sem, ac_linkworkref01_form, ht]
  refine ⟨hl, hlen, fun _ => ⟨fun h => ?_, fun h => ?_⟩⟩
  ·have h0 : val l = 0 := digs_len0.1 h
   have e : zcan (sg b (val l)) = zcan 0 := by rw [h0]; unfold sg; split <;> rfl
   rw [e] at hK
   have e2 : (zcan 0) = (false, []) := by simp [zcan, digs_zero]
   rw [e2] at hK; exact hK
  ·rw [← can_sg] at hK
   have e : decide (0 < (digs (val l)).length) = true := by simp only [decide_eq_true_eq]; omega
   rw [e, Bool.and_true] at hK; exact hK
theorem zsign01_sound (hΓ : Holds P Γ) {f fm fn : Nat} (hm : Γ fm = .dat false zmag_G) (hn : Γ fn = .dat true znegp_G) (hc : check P f = some (9, (ac_linkworkref01_Sign fm fn).strip, [.tmp 2])) : Sound P f (.dat true zsign_G) := by
 refine sound_dat hc zsign_good hΓ (fun args K hcl hfi hG => ?_)
 match args, hG with
 | [a], hG =>
  obtain ⟨w, rfl, hw, hK⟩ := hG
  refine ⟨by simp, ?_⟩
  simp only [go_sem, ac_linkworkref01_Sign, hm, hn, hw]
  intro _
  refine ⟨fun h => ?_, fun h => ⟨fun hb => ?_, fun hb => ?_⟩⟩
  ·have h0 : zv w = 0 := zs_eq_zero.1 h
   rw [h0] at hK; exact hK
  ·rw [Int.sign_eq_neg_one_of_neg hb] at hK; exact hK
  ·have h0 : zv w ≠ 0 := fun e => h (zs_eq_zero.2 e)
   rw [Int.sign_eq_one_of_pos (by omega)] at hK; exact hK
theorem zsub01_sound (hΓ : Holds P Γ) {f fn fa : Nat} (hn : Γ fn = .dat false zneg_G) (ha : Γ fa = .dat false zadd_G) (hc : check P f = some (9, (ac_linkworkref01_Sub fn fa).strip, [.cell 4 2 true])) : Sound P f (.dat false zsub_G) := by
 refine sound_dat hc zsub_good hΓ (fun args K hcl hfi hG => ?_)
 match args, hG with
 | [a, b], hG =>
  obtain ⟨v, rfl, hv, w, rfl, hw, hz, hz', hK⟩ := hG
  refine ⟨by simp, ?_⟩
  simp only [go_sem, ac_linkworkref01_Sub, hn, ha, hw, hv]
  refine ⟨by omega, hz, by rw [zs_neg]; exact hz', ?_⟩
  rw [← Int.sub_eq_add_neg]; exact hK
theorem zcmp01_sound (hΓ : Holds P Γ) {f fs fg : Nat} (hs : Γ fs = .dat false zsub_G) (hg : Γ fg = .dat true zsign_G) (hc : check P f = some (9, (ac_linkworkref01_Cmp fs fg).strip, [.tmp 4])) : Sound P f (.dat true zcmp01_G) := by
 refine sound_dat hc zcmp01_good hΓ (fun args K hcl hfi hG => ?_)
 match args, hG with
 | [a, b], hG =>
  obtain ⟨v, rfl, hv, w, rfl, hw, hz, hz', hz2, hK⟩ := hG
  refine ⟨by simp, ?_⟩
  simp only [go_sem, ac_linkworkref01_Cmp, hs, hg, hw, hv]
  refine ⟨hz, hz', ?_⟩
  have e : Int.sign (zv v - zv w) = ordI (zv v) (zv w) := by
   unfold ordI
   split
   ·exact Int.sign_eq_neg_one_of_neg (by omega)
   ·split
    ·exact Int.sign_eq_one_of_pos (by omega)
    ·rw [show zv v - zv w = 0 by omega]; rfl
  rw [e]; exact hK
theorem zgcd01_sound (hΓ : Holds P Γ) {f fm fg fw : Nat} (hm : Γ fm = .dat false zmag_G) (hg : Γ fg = .dat false gcd01_G) (hw' : Γ fw = .dat false whole_G) (hc : check P f = some (11, (ac_linkworkref01_Gcd fm fg fw).strip, [.cell 4 2 true])) : Sound P f (.dat false zgcd_G) := by
 refine sound_dat hc zgcd_good hΓ (fun args K hcl hfi hG => ?_)
 match args, hG with
 | [a, b], hG =>
  obtain ⟨v, rfl, hv, w, rfl, hw, hz, hz', hK⟩ := hG
  refine ⟨by simp, ?_⟩
  simp only [go_sem, ac_linkworkref01_Gcd, hm, hg, hw', hw, hv, val_digs]
  have hle : (digs ((zv v).natAbs.gcd (zv w).natAbs)).length ≤ 17179869184 := by
   rcases Nat.eq_zero_or_pos (zv v).natAbs with h | h
   ·rw [h, Nat.gcd_zero_left]; exact hz'
   ·exact Nat.le_trans (digs_len_mono (Nat.le_of_dvd h (Nat.gcd_dvd_left _ _))) hz
  exact ⟨digs_WL _, digs_WL _, hz, hz', digs_WL _, by omega, hK⟩
theorem zadd01_sound (hΓ : Holds P Γ) {f fn fm fp fw fc fl : Nat} (hn : Γ fn = .dat true znegp_G) (hm : Γ fm = .dat false zmag_G) (hp : Γ fp = .dat false plus_G) (hw' : Γ fw = .dat false whole_G) (hc' : Γ fc = .dat true cmp01_G) (hl : Γ fl = .dat false less_G) (hc : check P f = some (38, (ac_linkworkref01_Add fm fn fp fw fc fl).strip, [.cell 4 2 true])) : Sound P f (.dat false zadd_G) := by
 refine sound_dat hc zadd_good hΓ (fun args K hcl hfi hG => ?_)
 match args, hG with
 | [a, b], hG =>
  obtain ⟨v, rfl, hv, w, rfl, hw, hz, hz', hK⟩ := hG
  refine ⟨by simp, ?_⟩
  simp only [go_sem, ac_linkworkref01_Add, hn, hm, hp, hw', hc', hl, hw, hv]
  simp only [val_digs]
  have hsz := zs_add (zv v) (zv w)
  refine ⟨fun h => ⟨digs_WL _, digs_WL _, hz, hz', digs_WL _, ?_, ?_⟩, fun h => ⟨digs_WL _, digs_WL _, fun ho => ⟨digs_WL _, digs_WL _, by unfold zs at hz; omega, ?_, digs_WL _, ?_, ?_⟩, fun ho => ⟨digs_WL _, digs_WL _, by unfold zs at hz'; omega, ?_, digs_WL _, ?_, ?_⟩⟩⟩
  ·have e := sg_add_same (of_decide_beq h)
   rw [show (zv v).natAbs + (zv w).natAbs = (zv v + zv w).natAbs by have := of_decide_beq h; omega]
   unfold zs at *; omega
  ·rw [sg_add_same (of_decide_beq h)]; exact hK
  ·exact (ordN_ge.1 ho)
  ·have := digs_len_mono (Nat.sub_le (zv v).natAbs (zv w).natAbs); unfold zs at *; omega
  ·have h1 := ordN_ge.1 ho
   rw [sg_sub (of_decide_bne h) h1]; exact hK
  ·have := mt ordN_ge.2 ho; omega
  ·have := digs_len_mono (Nat.sub_le (zv w).natAbs (zv v).natAbs); unfold zs at *; omega
  ·have h1 := mt ordN_ge.2 ho
   rw [sg_sub (fun e => of_decide_bne h e.symm) (by omega), Int.add_comm]; exact hK
theorem zdiv01_sound (hΓ : Holds P Γ) {f fs fn fm fp fw fd fl : Nat} (hs : Γ fs = .dat true zsign_G) (hn : Γ fn = .dat true znegp_G) (hm : Γ fm = .dat false zmag_G) (hp : Γ fp = .dat false plus_G) (hw' : Γ fw = .dat false whole_G) (hd : Γ fd = .dat false divide_G) (hl : Γ fl = .dat false less_G) (hc : check P f = some (45, (ac_linkworkref01_Div fs fm fd fn fp fl fw).strip, [.cell 4 2 true, .cell 5 2 true, .tmp 6])) : Sound P f (.dat false zdiv01_G) := by
 refine sound_dat hc zdiv01_good hΓ (fun args K hcl hfi hG => ?_)
 match args, hG with
 | [a, b], hG =>
  obtain ⟨v, rfl, hv, w, rfl, hw, hz, hz', h0, hK⟩ := hG
  refine ⟨by simp, ?_⟩
  simp only [go_sem, ac_linkworkref01_Div, hs, hn, hm, hp, hw', hd, hl, hw, hv]
  simp only [val_digs]
  have hne : ¬ (digs (zv w).natAbs).length = 0 := fun e => h0 (zs_eq_zero.1 e)
  refine ⟨fun e => absurd (Int.sign_eq_zero_iff_zero.1 e) h0, fun _ => ⟨digs_WL _, digs_WL _, digs_NZ _, digs_NZ _, fun e => hne (by rw [e]; rfl), hz, hz', ?_⟩⟩
  have hq : (digs ((zv v).natAbs / (zv w).natAbs)).length ≤ 17179869184 := Nat.le_trans (digs_len_mono (Nat.div_le_self _ _)) hz
  have hr : (digs ((zv v).natAbs % (zv w).natAbs)).length ≤ 17179869184 := Nat.le_trans (digs_len_mono (Nat.mod_le _ _)) hz
  have hz'' : (digs (zv w).natAbs).length ≤ 17179869184 := hz'
  have hlt := Nat.mod_lt (zv v).natAbs (show 0 < (zv w).natAbs by omega)
  have hfin : (0 ≤ zv v ∨ (zv v).natAbs % (zv w).natAbs = 0) → K (AV.tup
    [AV.agg [zb (zcan (sg (!(decide (zv v < 0) == decide (zv w < 0))) ((zv v).natAbs / (zv w).natAbs))), zm (zcan (sg (!(decide (zv v < 0) == decide (zv w < 0))) ((zv v).natAbs / (zv w).natAbs)))],
     AV.agg [zb (zcan (sg false ((zv v).natAbs % (zv w).natAbs))), zm (zcan (sg false ((zv v).natAbs % (zv w).natAbs)))], AV.one (C.lit (Value.int IntKind.i64 0))]) := by
   intro h
   obtain ⟨e1, e2⟩ := ediv_pos h0 h
   have e1' : sg (!(decide (zv v < 0) == decide (zv w < 0))) ((zv v).natAbs / (zv w).natAbs) = zv v / zv w := e1
   have e2' : sg false ((zv v).natAbs % (zv w).natAbs) = zv v % zv w := e2
   rw [e1', e2']; exact hK
  refine ⟨fun hneg _ => ⟨fun hp => ⟨digs_WL _, (onWs_1 _ 1).mpr ⟨WL_cons.2 ⟨by decide, WL_nil⟩, hq, by decide, digs_WL _, digs_WL _, by omega, by omega, digs_WL _, ?_, digs_WL _, ?_, ?_⟩⟩, fun hp => ⟨digs_WL _, by omega, digs_WL _, by omega, hfin (.inr ?_)⟩⟩, fun hneg => ⟨digs_WL _, by omega, digs_WL _, by omega, hfin (.inl (by omega))⟩⟩
  ·have hv1 : val [1] = 1 := rfl
   rw [hv1]
   have h1 : zs 1 ≤ 2 := zs_of (by decide)
   have := zs_add (((zv v).natAbs / (zv w).natAbs : Nat) : Int) 1
   have e : (((zv v).natAbs / (zv w).natAbs : Nat) : Int) + 1 = (((zv v).natAbs / (zv w).natAbs + 1 : Nat) : Int) := by omega
   rw [e] at this
   have h3 : zs (((zv v).natAbs / (zv w).natAbs : Nat) : Int) = (digs ((zv v).natAbs / (zv w).natAbs)).length := rfl
   have h4 : zs (((zv v).natAbs / (zv w).natAbs + 1 : Nat) : Int) = (digs ((zv v).natAbs / (zv w).natAbs + 1)).length := rfl
   rw [h3, h4] at this
   omega
  ·have := digs_len_mono (Nat.sub_le (zv w).natAbs ((zv v).natAbs % (zv w).natAbs)); omega
  ·have hv1 : val [1] = 1 := rfl
   rw [hv1]
   have hne' : (zv v).natAbs % (zv w).natAbs ≠ 0 := by
    intro e; rw [e, digs_zero] at hp; simp at hp
   obtain ⟨e1, e2⟩ := ediv_neg h0 hneg hne'
   have e1' : sg (!(decide (zv v < 0) == decide (zv w < 0))) ((zv v).natAbs / (zv w).natAbs + 1) = zv v / zv w := e1
   have e2' : sg false ((zv w).natAbs - (zv v).natAbs % (zv w).natAbs) = zv v % zv w := e2
   rw [e1', e2']; exact hK
  ·have : digs ((zv v).natAbs % (zv w).natAbs) = [] := List.eq_nil_of_length_eq_zero (by omega)
   exact digs_eq_nil.1 this
end Go.Abs
end
