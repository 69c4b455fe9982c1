/-
  Parts of the proof, merged: PoseF, PoseG, PoseH, PoseJ, PoseQ, PoseL.
-/
import Derived.Test.YtobkolmneiiheaaGreatDoorM7
set_option linter.unusedVariables false
set_option linter.unusedSimpArgs false
section
set_option linter.unusedVariables false
set_option linter.unusedSimpArgs false
set_option maxRecDepth 100000
namespace Go.Num
open Go.Abs
def pt (i : Nat) (A : List V2) : V2 := A.getD i (0, 0)
theorem getD_can (A : List V2) (i : Nat) : (A.map acan).getD i a0 = acan (pt i A) := by
 unfold pt
 rw [List.getD_eq_getElem?_getD, List.getD_eq_getElem?_getD, List.getElem?_map]
 cases A[i]? with
 | none => simp only [Option.map_none, Option.getD_none, acan, a0, rcan_zero]
 | some x => rfl
theorem acan_mk (a : V2) : acan a = (rcan a.1, rcan a.2) := rfl
def ciV (A : List V2) : V2 := ciQ (pt 0 A) (subQ (pt 1 A) (pt 0 A)) (subQ (pt 2 A) (pt 0 A))
def crV (A : List V2) : Rat := crossQ (subQ (pt 1 A) (pt 0 A)) (subQ (pt 2 A) (pt 0 A))
theorem ciL_can (A : List V2) : ciL (A.map acan) = ciV A := by unfold ciL ciV; simp only [getD_can, av_can]
theorem crL_can (A : List V2) : crL (A.map acan) = crV A := by unfold crL crV; simp only [getD_can, av_can]
def othV (A : List V2) : V2 := if pt 0 A = pt 1 A then pt 2 A else pt 1 A
def lnC (A : List V2) : Nat := if pt 0 A = othV A then 8 else if crV A ≠ 0 then 21 else 0
def lnA (A : List V2) : Rat := if lnC A = 0 then (pt 0 A).2 - (othV A).2 else 0
def lnB (A : List V2) : Rat := if lnC A = 0 then (othV A).1 - (pt 0 A).1 else 0
def lnK (A : List V2) : Rat := if lnC A = 0 then ((pt 0 A).2 - (othV A).2) * (pt 0 A).1 + ((othV A).1 - (pt 0 A).1) * (pt 0 A).2 else 0
abbrev DyQ := V2 × V2 × Rat
def dl (d : Dy) : Nat := max (al d.1) (max (al d.2.1) (rl d.2.2))
def dvld (d : Dy) : Bool := avld d.1 && (avld d.2.1 && vldR d.2.2)
def d0 : DyQ := ((0, 0), (0, 0), 0)
def cenC (l : List Ps) (m : Arc) : Nat := if chkC l [m] ≠ 0 then chkC l [m] else if crV (imgs l m) = 0 then 8 else 0
def cenQ (A : List V2) (m : V2) : DyQ := (ciV A, m, sqQ (subQ (pt 0 A) (ciV A)))
def lineC (l : List Ps) (m : Arc) : Nat := if chkC l [m] ≠ 0 then chkC l [m] else lnC (imgs l m)
def psnC (l : List Ps) (d : Dy) : Nat := if plchk l ≠ 0 then plchk l else if dvld d then 0 else 2
def psnB (l : List Ps) (d : Dy) : Bool := (imgs l d.2.1).all fun x => decide (sqQ (subQ x (av d.1)) = rv d.2.2)
theorem chk_0 {l : List Ps} {m : Arc} (h : chkC l [m] = 0) : l.length = 3 ∧ l.all pvld = true ∧ avld m = true ∧ imgC l m = 0 := by
 unfold chkC at h
 by_cases h1 : threeC l = 0
 ·rw [if_neg (by omega)] at h
  have h2 : l.length = 3 ∧ l.all pvld = true := by
   unfold threeC plchk at h1
   repeat' split at h1
   all_goals first | contradiction | (try omega)
   rename_i h5
   exact ⟨by omega, by assumption⟩
  have h3 : avld m = true := by
   unfold placeC at h
   split at h
   ·rename_i h4; simpa using h4
   ·contradiction
  refine ⟨h2.1, h2.2, h3, ?_⟩
  unfold imgC
  rw [if_pos]
  rw [List.all_eq_true] at h2 ⊢
  intro p hp
  simp only [aok, h2.2 p hp, h3, Bool.and_self]
 ·rw [if_pos h1] at h; contradiction
theorem zq_pt {l : List Ps} {m : Arc} {b c : Nat} (h : okPs b l) (hw : WLA m) (hm : al m ≤ c) (i : Nat) : zq (pt i (imgs l m)) ≤ 9 * b + 2 * c + 48 := by
 unfold pt
 rw [List.getD_eq_getElem?_getD]
 unfold imgs
 rw [List.getElem?_map]
 cases hg : l[i]? with
 | none =>
  have : zq (0, 0) = 0 := by unfold zq; rw [rz_0]; rfl
  simp only [Option.map_none, Option.getD_none, this]; omega
 | some p =>
  obtain ⟨h1, h2⟩ := h p (List.mem_of_getElem? hg)
  have e := zq_app (pv p) (av m)
  have e1 : rz (pv p).1.1 ≤ rl p.1.1 := rz_rv h1.1
  have e2 : zq (pv p).2 ≤ al p.2 := av_le h1.2
  have e3 := av_le hw
  have e4 : rl p.1.1 ≤ b := Nat.le_trans (Nat.le_max_left _ _) h2
  have e5 : al p.2 ≤ b := Nat.le_trans (Nat.le_max_right _ _) h2
  simp only [Option.map_some, Option.getD_some]; omega
theorem okAs_imgs {l : List Ps} {m : Arc} {b c : Nat} (h : okPs b l) (hw : WLA m) (hm : al m ≤ c) : okAs (9 * b + 2 * c + 48) ((imgs l m).map acan) := by
 intro z hz
 obtain ⟨x, hx, rfl⟩ := List.mem_map.1 hz
 obtain ⟨i, hi, rfl⟩ := List.mem_iff_getElem.1 hx
 refine ⟨WLA_can _, ?_⟩
 have := zq_pt h hw hm i
 unfold pt at this
 rw [List.getD_eq_getElem?_getD, List.getElem?_eq_getElem hi] at this
 exact this
theorem zq_ci {p u v : V2} {b : Nat} (hu : zq u ≤ b) (hv : zq v ≤ b) : zq (ciQ p u v) ≤ zq p + 14 * b + 32 := by
 unfold ciQ
 split
 ·have : zq (0, 0) = 0 := by unfold zq; rw [rz_0]; rfl
  omega
 ·have u1 : rz u.1 ≤ zq u := Nat.le_max_left _ _
  have u2 : rz u.2 ≤ zq u := Nat.le_max_right _ _
  have v1 : rz v.1 ≤ zq v := Nat.le_max_left _ _
  have v2 : rz v.2 ≤ zq v := Nat.le_max_right _ _
  have p1 : rz p.1 ≤ zq p := Nat.le_max_left _ _
  have p2 : rz p.2 ≤ zq p := Nat.le_max_right _ _
  have su := rz_sq u
  have sv := rz_sq v
  have zc := rz_cross u v
  have zt := rz_int 2
  have zt2 : zs 2 ≤ 2 := zs_of (by decide)
  have e2 : (((2 : Int)) : Rat) = 2 := rfl
  rw [e2] at zt
  have md := rz_mul 2 (crossQ u v)
  have m1 := rz_mul (sqQ u) v.2
  have m2 := rz_mul (sqQ v) u.2
  have m3 := rz_mul (sqQ v) u.1
  have m4 := rz_mul (sqQ u) v.1
  have s1 := rz_sub (sqQ u * v.2) (sqQ v * u.2)
  have s2 := rz_sub (sqQ v * u.1) (sqQ u * v.1)
  have d1 := rz_div (sqQ u * v.2 - sqQ v * u.2) (2 * crossQ u v)
  have d2 := rz_div (sqQ v * u.1 - sqQ u * v.1) (2 * crossQ u v)
  have a1 := rz_add p.1 ((sqQ u * v.2 - sqQ v * u.2) / (2 * crossQ u v))
  have a2 := rz_add p.2 ((sqQ v * u.1 - sqQ u * v.1) / (2 * crossQ u v))
  have g : zq (ctrQ p u v) = max (rz (p.1 + (sqQ u * v.2 - sqQ v * u.2) / (2 * crossQ u v))) (rz (p.2 + (sqQ v * u.1 - sqQ u * v.1) / (2 * crossQ u v))) := rfl
  rw [g]
  exact Nat.max_le.2 ⟨by omega, by omega⟩
theorem zq_ciV {A : List V2} {c : Nat} (h0 : zq (pt 0 A) ≤ c) (h1 : zq (pt 1 A) ≤ c) (h2 : zq (pt 2 A) ≤ c) : zq (ciV A) ≤ 29 * c + 60 := by
 have u := zq_sub (pt 1 A) (pt 0 A)
 have v := zq_sub (pt 2 A) (pt 0 A)
 have := zq_ci (p := pt 0 A) (u := subQ (pt 1 A) (pt 0 A)) (v := subQ (pt 2 A) (pt 0 A)) (b := 2 * c + 2) (by omega) (by omega)
 unfold ciV; omega
theorem okAs_mono' {b c : Nat} {l : List Arc} (h : okAs b l) (hb : b ≤ c) : okAs c l := fun p hp => ⟨(h p hp).1, Nat.le_trans (h p hp).2 hb⟩
theorem okPs_mono {b c : Nat} {l : List Ps} (h : okPs b l) (hb : b ≤ c) : okPs c l := fun p hp => ⟨(h p hp).1, Nat.le_trans (h p hp).2 hb⟩
end Go.Num
namespace Go.Abs
open Go.Num
variable {P : Program} {Γ : Nat → Spec}
def dqA (d : DyQ) : AV := .agg [cb (rcan d.1.1), cn (rcan d.1.1), cd (rcan d.1.1), cb (rcan d.1.2), cn (rcan d.1.2), cd (rcan d.1.2), cb (rcan d.2.1.1), cn (rcan d.2.1.1), cd (rcan d.2.1.1), cb (rcan d.2.1.2), cn (rcan d.2.1.2), cd (rcan d.2.1.2), cb (rcan d.2.2), cn (rcan d.2.2), cd (rcan d.2.2)]
theorem dqA_eq (d : DyQ) : dqA d = .agg [cb (rcan d.1.1), cn (rcan d.1.1), cd (rcan d.1.1), cb (rcan d.1.2), cn (rcan d.1.2), cd (rcan d.1.2), cb (rcan d.2.1.1), cn (rcan d.2.1.1), cd (rcan d.2.1.1), cb (rcan d.2.1.2), cn (rcan d.2.1.2), cd (rcan d.2.1.2), cb (rcan d.2.2), cn (rcan d.2.2), cd (rcan d.2.2)] := eq_of_heq (HEq.refl _)
attribute [go_sem] dqA_eq
attribute [go_sem ↓] dqA_eq
def tline_G (tE : Nat) (l : List AV) (K : AV → Prop) : Prop :=
 match l with
 | [a, b] => onPs (fun l => onA (fun m => okPs 1000 l ∧ al m ≤ 10000 ∧ K (.tup [rQ (if lineC l m = 0 then lnA (imgs l m) else 0), rQ (if lineC l m = 0 then lnB (imgs l m) else 0), rQ (if lineC l m = 0 then lnK (imgs l m) else 0), errV tE (lineC l m)])) b) a
 | _ => False
theorem tline_Ge (tE : Nat) (a b : AV) (K : AV → Prop) : tline_G tE [a, b] K = (onPs (fun l => onA (fun m => okPs 1000 l ∧ al m ≤ 10000 ∧ K (.tup [rQ (if lineC l m = 0 then lnA (imgs l m) else 0), rQ (if lineC l m = 0 then lnB (imgs l m) else 0), rQ (if lineC l m = 0 then lnK (imgs l m) else 0), errV tE (lineC l m)])) b) a) := propext Iff.rfl
@[congr] theorem tline_Gc (tE : Nat) {K : AV → Prop} {l l' : List AV} (h : l = l') : tline_G tE l K = tline_G tE l' K := by subst h; rfl
attribute [go_sem] tline_Ge
attribute [go_sem ↓] tline_Ge
def rline_G (l : List AV) (K : AV → Prop) : Prop :=
 match l with
 | [a, b] => onPs (fun l => onA (fun m => okPs 1000 l ∧ al m ≤ 10000 ∧ l.length = 3 ∧ K (.tup [rQ (lnA (imgs l m)), rQ (lnB (imgs l m)), rQ (lnK (imgs l m)), .one (.lit (.int .i64 (lnC (imgs l m) : Nat)))])) b) a
 | _ => False
theorem rline_Ge (a b : AV) (K : AV → Prop) : rline_G [a, b] K = (onPs (fun l => onA (fun m => okPs 1000 l ∧ al m ≤ 10000 ∧ l.length = 3 ∧ K (.tup [rQ (lnA (imgs l m)), rQ (lnB (imgs l m)), rQ (lnK (imgs l m)), .one (.lit (.int .i64 (lnC (imgs l m) : Nat)))])) b) a) := propext Iff.rfl
@[congr] theorem rline_Gc {K : AV → Prop} {l l' : List AV} (h : l = l') : rline_G l K = rline_G l' K := by subst h; rfl
attribute [go_sem] rline_Ge
attribute [go_sem ↓] rline_Ge
def tcentre_G (tE : Nat) (l : List AV) (K : AV → Prop) : Prop :=
 match l with
 | [a, b] => onPs (fun l => onA (fun m => okPs 1000 l ∧ al m ≤ 10000 ∧ K (.tup [dqA (if cenC l m = 0 then cenQ (imgs l m) (av m) else d0), errV tE (cenC l m)])) b) a
 | _ => False
theorem tcentre_Ge (tE : Nat) (a b : AV) (K : AV → Prop) : tcentre_G tE [a, b] K = (onPs (fun l => onA (fun m => okPs 1000 l ∧ al m ≤ 10000 ∧ K (.tup [dqA (if cenC l m = 0 then cenQ (imgs l m) (av m) else d0), errV tE (cenC l m)])) b) a) := propext Iff.rfl
@[congr] theorem tcentre_Gc (tE : Nat) {K : AV → Prop} {l l' : List AV} (h : l = l') : tcentre_G tE l K = tcentre_G tE l' K := by subst h; rfl
attribute [go_sem] tcentre_Ge
attribute [go_sem ↓] tcentre_Ge
theorem tcentre_good (tE : Nat) : Good (tcentre_G tE) := good_of fun as => by
 unfold tcentre_G
 split
 ·exact (g_onPs fun _ => (g_onA fun _ => (.and fun _ => (.and fun _ => (.ret _)))))
 ·exact .of fun K hk => hk.elim
def tpasses_G (tE : Nat) (l : List AV) (K : AV → Prop) : Prop :=
 match l with
 | [a, b] => onPs (fun l => onDy (fun d => okPs 1000 l ∧ dl d ≤ 100000 ∧ K (.tup [.one (.lit (.bool (decide (psnC l d = 0) && psnB l d))), errV tE (psnC l d)])) b) a
 | _ => False
theorem tpasses_Ge (tE : Nat) (a b : AV) (K : AV → Prop) : tpasses_G tE [a, b] K = (onPs (fun l => onDy (fun d => okPs 1000 l ∧ dl d ≤ 100000 ∧ K (.tup [.one (.lit (.bool (decide (psnC l d = 0) && psnB l d))), errV tE (psnC l d)])) b) a) := propext Iff.rfl
@[congr] theorem tpasses_Gc (tE : Nat) {K : AV → Prop} {l l' : List AV} (h : l = l') : tpasses_G tE l K = tpasses_G tE l' K := by subst h; rfl
attribute [go_sem] tpasses_Ge
attribute [go_sem ↓] tpasses_Ge
theorem tpasses_good (tE : Nat) : Good (tpasses_G tE) := good_of fun as => by
 unfold tpasses_G
 split
 ·exact (g_onPs fun _ => (g_onDy fun _ => (.and fun _ => (.and fun _ => (.ret _)))))
 ·exact .of fun K hk => hk.elim
def ac_threepos_Centre (f0 f1 f2 f3 f4 f5 : Nat) : AC := (.seq (.ops false [.u 3 (.box 6 (.t 1)), .u 4 (.alloc [(.lit (.bool false)), .emp, .emp, (.lit (.bool false)), .emp, .emp, (.lit (.bool false)), .emp, .emp, (.lit (.bool false)), .emp, .emp, (.lit (.bool false)), .emp, .emp]), .m 5 (.c (.one (.lit .nilIface)))])
 (.fg [0, 3, 4] (.seq (.seq (.ops false [.m 10 (.t 0), .u 11 (.ld none 6 true (.t 3)), .u 12 (.row 6 [[.x 6 (.t 11)]]), .u 13 (.call f0 [(.t 10), (.t 12)]), .m 6 (.t 13)])
 (.fg [0, 3, 4, 6] (.seq (.ops false [.m 14 (.t 6), .u 15 (.binn .neq (.t 14) (.c (.one (.lit .nilIface))))])
 (.fg [0, 3, 4, 6, 15] (.cond (.t 15) (.seq (.ops false [.u 16 (.build [.z [(.lit (.bool false)), .emp, .emp, (.lit (.bool false)), .emp, .emp, (.lit (.bool false)), .emp, .emp, (.lit (.bool false)), .emp, .emp, (.lit (.bool false)), .emp, .emp]]), .m 17 (.t 6), .n (.st none 15 (.t 4) (.t 16)), .m 5 (.t 17)])
 .ret) .skip)))))
 (.fg [0, 3, 4] (.seq (.ops false [.m 19 (.t 0), .u 20 (.ld none 6 true (.t 3)), .u 21 (.call f1 [(.t 19), (.t 20)]), .m 18 (.t 21), .u 22 (.ext 0 (.t 18)), .u 23 (.ext 1 (.t 18)), .m 7 (.t 22), .m 8 (.t 23)])
 (.fg [3, 4, 7, 8] (.seq (.seq (.ops false [.m 24 (.t 8), .u 25 (.binn .neq (.t 24) (.c (.one (.lit .nilIface))))])
 (.fg [3, 4, 7, 8, 25] (.cond (.t 25) (.seq (.ops false [.u 26 (.build [.z [(.lit (.bool false)), .emp, .emp, (.lit (.bool false)), .emp, .emp, (.lit (.bool false)), .emp, .emp, (.lit (.bool false)), .emp, .emp, (.lit (.bool false)), .emp, .emp]]), .m 27 (.t 8), .n (.st none 15 (.t 4) (.t 26)), .m 5 (.t 27)])
 .ret) .skip)))
 (.fg [3, 4, 7] (.seq (.ops false [.m 29 (.t 7), .u 30 (.call f2 [(.t 29)]), .m 28 (.t 30), .u 31 (.ext 0 (.t 28)), .u 32 (.ext 1 (.t 28)), .u 9 (.alloc [(.lit (.bool false)), .emp, .emp, (.lit (.bool false)), .emp, .emp]), .n (.st none 6 (.t 9) (.t 31)), .m 8 (.t 32)])
 (.fg [3, 4, 7, 8, 9] (.seq (.seq (.ops false [.m 33 (.t 8), .u 34 (.binn .neq (.t 33) (.c (.one (.lit .nilIface))))])
 (.fg [3, 4, 7, 8, 9, 34] (.cond (.t 34) (.seq (.ops false [.u 35 (.build [.z [(.lit (.bool false)), .emp, .emp, (.lit (.bool false)), .emp, .emp, (.lit (.bool false)), .emp, .emp, (.lit (.bool false)), .emp, .emp, (.lit (.bool false)), .emp, .emp]]), .m 36 (.t 8), .n (.st none 15 (.t 4) (.t 35)), .m 5 (.t 36)])
 .ret) .skip)))
 (.fg [3, 4, 7, 9] (.seq (.ops true [.u 37 (.ld none 6 true (.t 9)), .u 38 (.ld none 6 true (.t 3)), .u 39 (.call f3 [(.t 38)]), .m 40 (.t 7), .u 41 (.idx 6 (.t 40) (.i 0)), .u 42 (.ld none 6 true (.t 41)), .u 43 (.ld none 6 true (.t 9)), .u 44 (.call f4 [(.t 42), (.t 43)]), .u 45 (.call f5 [(.t 44)]), .u 46 (.build [.x 6 (.t 37), .x 6 (.t 39), .x 3 (.t 45)]), .n (.st none 15 (.t 4) (.t 46)), .m 5 (.c (.one (.lit .nilIface)))])
 .ret)))))))))))))
def ac_threepos_Passes (f0 f1 f2 f3 f4 f5 f6 tE : Nat) : AC := (.seq (.ops false [.u 3 (.box 15 (.t 1)), .m 4 .fa, .m 5 (.c (.one (.lit .nilIface)))])
 (.fg [0, 3] (.seq (.seq (.ops false [.m 11 (.t 0), .u 12 (.call f0 [(.t 11)]), .m 6 (.t 12)])
 (.fg [0, 3, 6] (.seq (.ops false [.m 13 (.t 6), .u 14 (.binn .neq (.t 13) (.c (.one (.lit .nilIface))))])
 (.fg [0, 3, 6, 14] (.cond (.t 14) (.seq (.ops false [.m 15 (.t 6), .m 4 .fa, .m 5 (.t 15)])
 .ret) .skip)))))
 (.fg [0, 3] (.seq (.seq (.ops false [.u 16 (.fa 0 (.t 3)), .u 17 (.ld none 6 true (.t 16)), .u 18 (.call f1 [(.t 17)]), .u 19 (.un .not (.t 18)), .m 20 (.t 19), .w 21 20 false (.fa 6 (.t 3)), .w 22 20 false (.ld none 6 true (.t 21)), .w 23 20 false (.call f1 [(.t 22)]), .w 24 20 false (.un .not (.t 23)), .u 25 (.pick (.t 20) .tr (.t 24)), .m 26 (.t 25), .w 27 26 false (.fa 12 (.t 3)), .w 28 26 false (.ld none 3 true (.t 27)), .w 29 26 false (.call f2 [(.t 28)]), .w 30 26 false (.un .not (.t 29)), .u 31 (.pick (.t 26) .tr (.t 30))])
 (.fg [0, 3, 31] (.cond (.t 31) (.seq (.ops false [.u 32 (.iface tE (.i 2)), .m 4 .fa, .m 5 (.t 32)])
 .ret) .skip)))
 (.fg [0, 3] (.seq (.ops false [.m 34 (.t 0), .u 35 (.fa 6 (.t 3)), .u 36 (.ld none 6 true (.t 35)), .u 37 (.call f3 [(.t 34), (.t 36)]), .m 33 (.t 37), .u 38 (.ext 0 (.t 33)), .u 39 (.ext 1 (.t 33)), .m 7 (.t 38), .m 8 (.t 39)])
 (.fg [3, 7, 8] (.seq (.seq (.ops false [.m 40 (.t 8), .u 41 (.binn .neq (.t 40) (.c (.one (.lit .nilIface))))])
 (.fg [3, 7, 8, 41] (.cond (.t 41) (.seq (.ops false [.m 42 (.t 8), .m 4 .fa, .m 5 (.t 42)])
 .ret) .skip)))
 (.fg [3, 7] (.seq (.seq (.ops false [.m 43 (.t 7), .u 44 (.len (.t 43)), .m 45 (.i 0)])
 (.fg [3, 43, 44, 45] (.block 0 (.loop (.seq (.ops false [.u 46 (.bin .lss (.t 45) (.t 44))])
 (.fg [3, 43, 44, 45, 46] (.seq (.cond (.t 46) .skip (.exit 0))
 (.fg [3, 43, 44, 45] (.seq (.block 1 (.seq (.ops false [.u 47 (.idx 6 (.t 43) (.t 45)), .u 48 (.ld none 6 true (.t 47)), .u 10 (.alloc [(.lit (.bool false)), .emp, .emp, (.lit (.bool false)), .emp, .emp]), .n (.st none 6 (.t 10) (.t 48))])
 (.fg [3, 10, 43, 44, 45] (.seq (.ops true [.u 49 (.ld none 6 true (.t 10)), .u 50 (.fa 0 (.t 3)), .u 51 (.ld none 6 true (.t 50)), .u 52 (.call f4 [(.t 49), (.t 51)]), .u 53 (.call f5 [(.t 52)]), .u 54 (.fa 12 (.t 3)), .u 55 (.ld none 3 true (.t 54)), .u 56 (.call f6 [(.t 53), (.t 55)]), .u 57 (.bin .neq (.t 56) (.i 0))])
 (.fg [3, 43, 44, 45, 57] (.cond (.t 57) (.seq (.ops false [.m 4 .fa, .m 5 (.c (.one (.lit .nilIface)))])
 .ret) .skip))))))
 (.fg [3, 43, 44, 45] (.ops false [.u 58 (.bin .add (.t 45) (.i 1)), .m 45 (.t 58)])))))))))))
 (.fg [] (.seq (.ops false [.m 4 .tr, .m 5 (.c (.one (.lit .nilIface)))])
 .ret)))))))))))))
theorem rcmpW_sound (hΓ : Holds P Γ) {f fp fm fc : Nat} (hp : Γ fp = .dat false rparts_G) (hm : Γ fm = .dat false zmul_G) (hc' : Γ fc = .dat true zcmp_G) (hc : check P f = some (26, (ac_fraction_Cmp fp fm fc).strip, [.tmp 4])) : Sound P f (.dat true rcmp02_G) := by
 refine sound_dat hc rcmp02_good hΓ (fun args K hcl hfi hG => ?_)
 match args, hG with
 | [a, b], hG =>
  obtain ⟨x, rfl, hx, y, rfl, hy, hl, hl', hK⟩ := hG
  refine ⟨by simp, ?_⟩
  simp only [go_sem, ac_fraction_Cmp, hp, hm, hc', hx, hy]
  have n1 := num_le hx
  have d1 := den_le hx
  have n2 := num_le hy
  have d2 := den_le hy
  rw [← ordQ_eq]
  exact ⟨by omega, by omega, by omega, by omega, by omega, by omega, hK⟩
theorem tcentre_sound (hΓ : Holds P Γ) {f fk fi fc fn fs fq tE : Nat} (hk : Γ fk = .dat false (tchk3_G tE)) (hi : Γ fi = .dat false (pimgs_G tE)) (hx : Γ fc = .dat false (pcirc_G tE)) (hn : Γ fn = .dat false pclone_G) (hs : Γ fs = .dat false pless_G) (hq' : Γ fq = .dat false psq_G) (hc : check P f = some (47, (ac_threepos_Centre fk fi fc fn fs fq).strip, [.cell 4 15 true, .tmp 5])) : Sound P f (.dat false (tcentre_G tE)) := by
 refine sound_dat hc (tcentre_good tE) hΓ (fun args K hcl hfi hG => ?_)
 match args, hG with
 | [a, b], hG =>
  obtain ⟨l, rfl, hwl, m, rfl, hwm, hok, hm, hK⟩ := hG
  refine ⟨by simp, ?_⟩
  have ok1 := okPs_mono hok (by decide : 1000 ≤ 100000000)
  have ok2 := okPs_mono hok (by decide : 1000 ≤ 1000000)
  have om : okAs 100000000 [(m.1, m.2)] := fun z hz => by rw [List.mem_singleton.1 hz]; exact ⟨hwm, by have e : al (m.1, m.2) = al m := rfl; omega⟩
  have hm2 : al (m.1, m.2) ≤ 1000000 := by have e : al (m.1, m.2) = al m := rfl; omega
  have hm1 : al m ≤ 1000000 := by omega
  have hm3 : al m ≤ 100000000 := by omega
  have om1 : okAs 100000000 [m] := om
  by_cases h0 : chkC l [m] = 0
  ·obtain ⟨h3, hv, ha, hi0⟩ := chk_0 h0
   have hA := okAs_imgs hok hwm hm
   have hz0 := zq_pt hok hwm hm 0
   have hz1 := zq_pt hok hwm hm 1
   have hz2 := zq_pt hok hwm hm 2
   have hla := imgs_len l m
   have hle : l.length ≤ 100000 := by omega
   have hwA := WLA_cans (imgs l m)
   have hA1 := okAs_mono' hA (by decide : _ ≤ 1000000)
   have hci := zq_ciV hz0 hz1 hz2
   have ec : cenC l m = if crV (imgs l m) = 0 then 8 else 0 := by unfold cenC; rw [if_neg (by omega)]
   rw [ec] at hK
   obtain ⟨A, hAA⟩ : ∃ A, imgs l m = A := ⟨_, rfl⟩
   rw [hAA] at hK hA hz0 hz1 hz2 hla hwA hA1 hci
   have g4 : 3 ≤ A.length := by omega
   have e1 : (if imgC l m = 0 then A else []) = A := if_pos hi0
   have g3 : 3 ≤ (A.map acan).length := by rw [List.length_map]; omega
   have g0 : 0 < A.length := by omega
   by_cases hcr : crV A = 0
   ·rw [if_pos hcr, if_neg (by decide), errV_s tE (by decide), dqA_eq] at hK
    unfold d0 at hK
    rw [rcan_zero] at hK
    simp only [go_sem, ac_threepos_Centre, hk, hi, hx, hn, hs, hq', aC_eq, mk_eta, h0, hi0, hAA, e1, errV_0, crL_can, ciL_can, hcr, errV_s tE (by decide : 8 ≠ 0)]
    repeat (first | (refine And.intro (by omega) ?_) | (refine And.intro (by assumption) ?_) | (refine And.intro rfl ?_) | (refine And.intro ⟨rfl, by omega⟩ ?_) | (refine And.intro ⟨rfl, by omega, by omega⟩ ?_) | (intro _))
    exact hK
   ·rw [if_neg hcr, if_pos rfl, errV_0] at hK
    simp only [go_sem, ac_threepos_Centre, hk, hi, hx, hn, hs, hq', aC_eq, mk_eta, h0, hi0, hAA, e1, errV_0, crL_can, ciL_can, hcr, List.length_map, g0, getD_can, acan_mk, av_mk, rv_rcan]
    have c1 : al (rcan (pt 0 A).1, rcan (pt 0 A).2) = zq (pt 0 A) := rfl
    have c2 : al (rcan (ciV A).1, rcan (ciV A).2) = zq (ciV A) := rfl
    have c3 : al (rcan (subQ (pt 0 A) (ciV A)).1, rcan (subQ (pt 0 A) (ciV A)).2) = zq (subQ (pt 0 A) (ciV A)) := rfl
    have c4 := zq_sub (pt 0 A) (ciV A)
    rw [c1, c2, c3]
    repeat (first | (refine And.intro (by omega) ?_) | (refine And.intro (by assumption) ?_) | (refine And.intro rfl ?_) | (refine And.intro ⟨rfl, by omega⟩ ?_) | (refine And.intro ⟨rfl, by omega, by omega⟩ ?_) | (intro _))
    exact hK
  ·have ec : cenC l m = chkC l [m] := by unfold cenC; rw [if_pos h0]
   rw [ec, if_neg h0, errV_s tE h0, dqA_eq] at hK
   unfold d0 at hK
   rw [rcan_zero] at hK
   simp only [go_sem, ac_threepos_Centre, hk, aC_eq, mk_eta, errV_s tE h0]
   repeat (first | (refine And.intro (by omega) ?_) | (refine And.intro (by assumption) ?_) | (refine And.intro rfl ?_) | (refine And.intro ⟨rfl, by omega⟩ ?_) | (refine And.intro ⟨rfl, by omega, by omega⟩ ?_) | (intro _))
   exact hK
theorem okB_d {h h' : Nat → HB} {z : Nat} {b : Bool} {d : Dy} : okB h h' (some ⟨[dC d], z, b⟩) (some ⟨[dC d], z, b⟩) :=
 ⟨⟨rfl, rfl⟩, .inl ⟨rfl, fun e he c hc => by
  rw [List.mem_singleton.1 he] at hc
  simp only [dC, List.mem_cons, List.not_mem_nil, or_false] at hc
  rcases hc with rfl | rfl | rfl | rfl | rfl | rfl | rfl | rfl | rfl | rfl | rfl | rfl | rfl | rfl | rfl
  all_goals first | exact of_eq_true (clean_cb _) | exact of_eq_true (clean_cn _) | exact of_eq_true (clean_cd _)⟩⟩
theorem tpasses_sound (hΓ : Holds P Γ) {f fk fv fw fi fs fq fc tE : Nat} (hk : Γ fk = .dat false (plCk_G tE)) (hv : Γ fv = .dat true pvalid_G) (hw : Γ fw = .dat true rvalid_G) (hi : Γ fi = .dat false (pimgs_G tE)) (hs : Γ fs = .dat false pless_G) (hq' : Γ fq = .dat false psq_G) (hcm : Γ fc = .dat true rcmp02_G) (hc : check P f = some (59, (ac_threepos_Passes fk fv fw fi fs fq fc tE).strip, [.tmp 4, .tmp 5])) : Sound P f (.dat false (tpasses_G tE)) := by
 refine sound_dat hc (tpasses_good tE) hΓ (fun args K hcl hfi hG => ?_)
 match args, hG with
 | [a, b], hG =>
  obtain ⟨l, rfl, hwl, d, rfl, hwd, hok, hd, hK⟩ := hG
  refine ⟨by simp, ?_⟩
  obtain ⟨c, m, r⟩ := d
  obtain ⟨hwc, hwm, hwr⟩ := hwd
  have dc : al c ≤ 100000 := Nat.le_trans (Nat.le_max_left _ _) hd
  have dm : al m ≤ 100000 := Nat.le_trans (Nat.le_trans (Nat.le_max_left _ _) (Nat.le_max_right _ _)) hd
  have dr : rl r ≤ 100000 := Nat.le_trans (Nat.le_trans (Nat.le_max_right _ _) (Nat.le_max_right _ _)) hd
  simp only at hwc hwm hwr
  have ok1 := okPs_mono hok (by decide : 1000 ≤ 100000000)
  have ok2 := okPs_mono hok (by decide : 1000 ≤ 1000000)
  by_cases h0 : plchk l = 0
  ·cases hdv : dvld (c, m, r) with
   | false =>
    have ec : psnC l (c, m, r) = 2 := by unfold psnC; rw [if_neg (by omega), hdv, if_neg (by decide)]
    rw [ec, errV_s tE (by decide)] at hK
    have p0 : decide (2 = 0) = false := rfl
    rw [p0, Bool.false_and] at hK
    unfold dvld at hdv
    simp only at hdv
    cases h1 : avld c with
    | false =>
     simp only [go_sem, ac_threepos_Passes, hk, hv, hw, h0, errV_0, dA, dC, mk_eta, h1]
     repeat (first | (refine And.intro (by omega) ?_) | (refine And.intro (by assumption) ?_) | (refine And.intro rfl ?_) | (refine And.intro ⟨rfl, by omega⟩ ?_) | (refine And.intro ⟨rfl, by omega, by omega⟩ ?_) | (intro _))
     exact hK
    | true =>
     cases h2 : avld m with
     | false =>
      simp only [go_sem, ac_threepos_Passes, hk, hv, hw, h0, errV_0, dA, dC, mk_eta, h1, h2]
      repeat (first | (refine And.intro (by omega) ?_) | (refine And.intro (by assumption) ?_) | (refine And.intro rfl ?_) | (refine And.intro ⟨rfl, by omega⟩ ?_) | (refine And.intro ⟨rfl, by omega, by omega⟩ ?_) | (intro _))
      exact hK
     | true =>
      have h4 : vldR r = false := by rw [h1, h2, Bool.true_and, Bool.true_and] at hdv; exact hdv
      simp only [go_sem, ac_threepos_Passes, hk, hv, hw, h0, errV_0, dA, dC, mk_eta, h1, h2, h4]
      repeat (first | (refine And.intro (by omega) ?_) | (refine And.intro (by assumption) ?_) | (refine And.intro rfl ?_) | (refine And.intro ⟨rfl, by omega⟩ ?_) | (refine And.intro ⟨rfl, by omega, by omega⟩ ?_) | (intro _))
      exact hK
   | true =>
    have ec : psnC l (c, m, r) = 0 := by unfold psnC; rw [if_neg (by omega), hdv, if_pos rfl]
    have p0 : decide (0 = 0) = true := rfl
    rw [ec, p0, Bool.true_and, errV_0] at hK
    unfold dvld at hdv
    simp only [Bool.and_eq_true] at hdv
    obtain ⟨h1, h2, h4⟩ := hdv
    have hall : l.all pvld = true := by
     unfold plchk at h0
     repeat' split at h0
     all_goals first | contradiction | assumption
    have hi0 : imgC l m = 0 := by
     unfold imgC
     rw [if_pos]
     rw [List.all_eq_true] at hall ⊢
     intro p hp
     simp only [aok, hall p hp, h2, Bool.and_self]
    have hlen : l.length ≤ 5 := by
     unfold plchk at h0
     repeat' split at h0
     all_goals first | contradiction | omega
    have hA := okAs_imgs hok hwm dm
    have hla := imgs_len l m
    have hzz := zq_pt hok hwm dm
    have hwA := WLA_cans (imgs l m)
    unfold psnB at hK
    obtain ⟨A, hAA⟩ : ∃ A, imgs l m = A := ⟨_, rfl⟩
    simp only at hK
    rw [hAA] at hK hA hla hzz hwA
    have e1 : (if imgC l m = 0 then A else []) = A := if_pos hi0
    have dm1 : al m ≤ 1000000 := by omega
    have hl1 : l.length ≤ 100000 := by omega
    simp only [go_sem, ac_threepos_Passes, hk, hv, hw, hi, h0, errV_0, dA, dC, mk_eta, h1, h2, h4, hi0, hAA, e1]
    repeat (first | (refine And.intro (by omega) ?_) | (refine And.intro (by assumption) ?_) | (refine And.intro rfl ?_) | (refine And.intro ⟨rfl, by omega⟩ ?_) | (refine And.intro ⟨rfl, by omega, by omega⟩ ?_) | (intro _))
    refine wpA_loop (fun k : Nat => ⟨mkV [(3, .one (.ptr 3 1 0 0)), (43, qsA A), (44, .one (.lit (.int .i64 (A.map acan).length))), (45, .one (.lit (.int .i64 k)))], mkH [(3, ⟨1, some ⟨[dC (c, m, r)], 15, true⟩⟩)]⟩) (fun k => k ≤ A.length ∧ (A.take k).all (fun x => decide (sqQ (subQ x (av c)) = rv r)) = true) (fun k => A.length - k) 0 ?_ ?_ ?_
    ·exact weak_lit (by simp [okS, okV, okC, okL, okH, okB, okE, mkV_cons, mkV_nil, mkH_cons, mkH_nil, wsA, ws, qsA]) ⟨okB_d (d := (c, m, r)), trivial⟩
    ·exact ⟨Nat.zero_le _, rfl⟩
    ·rintro k ⟨hkl, hal⟩
     by_cases hlt : k < A.length
     ·have hx0 : A[k]? = some (pt k A) := getD_get hlt rfl
      have hzx := hzz k
      obtain ⟨x, hx⟩ : ∃ x, pt k A = x := ⟨_, rfl⟩
      rw [hx] at hx0 hzx
      have c1 : al (rcan x.1, rcan x.2) = zq x := rfl
      have c2 : al (rcan (subQ x (av c)).1, rcan (subQ x (av c)).2) = zq (subQ x (av c)) := rfl
      have c3 := zq_sub x (av c)
      have c4 := av_le hwc
      have c5 := rz_sq (subQ x (av c))
      cases hb : decide (sqQ (subQ x (av c)) = rv r) with
      | true =>
       have ho : ordQ (sqQ (subQ x (av c))) (rv r) = 0 := ordQ_eq0.2 (of_decide_eq_true hb)
       simp only [go_sem, hs, hq', hcm, hlt, dC, List.length_map, getD_can, acan_mk, av_mk, rv_rcan, mk_eta, hx, c1, c2, ho, aC_eq]
       repeat (first | (refine And.intro (by omega) ?_) | (refine And.intro (by assumption) ?_) | (refine And.intro rfl ?_) | (refine And.intro ⟨rfl, by omega⟩ ?_) | (refine And.intro ⟨rfl, by omega, by omega⟩ ?_) | (intro _))
       exact ⟨k + 1, weak_lit (by simp [okS, okV, okC, okL, okH, okB, okE, mkV_cons, mkV_nil, mkH_cons, mkH_nil, wsA, ws]) ⟨okB_d (d := (c, m, r)), trivial⟩, ⟨by omega, all_step hx0 hal hb⟩, by omega⟩
      | false =>
       have ho : ¬ ordQ (sqQ (subQ x (av c))) (rv r) = 0 := fun h => of_decide_eq_false hb (ordQ_eq0.1 h)
       rw [all_f hx0 hb] at hK
       simp only [go_sem, hs, hq', hcm, hlt, dC, List.length_map, getD_can, acan_mk, av_mk, rv_rcan, mk_eta, hx, c1, c2, ho, aC_eq]
       repeat (first | (refine And.intro (by omega) ?_) | (refine And.intro (by assumption) ?_) | (refine And.intro rfl ?_) | (refine And.intro ⟨rfl, by omega⟩ ?_) | (refine And.intro ⟨rfl, by omega, by omega⟩ ?_) | (intro _))
       exact hK
     ·rw [List.take_of_length_le (by omega)] at hal
      rw [hal] at hK
      simp only [go_sem, hlt, List.length_map]
      exact hK
  ·have ec : psnC l (c, m, r) = plchk l := by unfold psnC; rw [if_pos h0]
   rw [ec, decide_eq_false h0, Bool.false_and, errV_s tE h0] at hK
   simp only [go_sem, ac_threepos_Passes, hk, errV_s tE h0, dA, dC]
   repeat (first | (refine And.intro (by omega) ?_) | (refine And.intro (by assumption) ?_) | (refine And.intro rfl ?_) | (refine And.intro ⟨rfl, by omega⟩ ?_) | (refine And.intro ⟨rfl, by omega, by omega⟩ ?_) | (intro _))
   exact hK
end Go.Abs
end
section
set_option linter.unusedVariables false
set_option linter.unusedSimpArgs false
set_option maxRecDepth 100000
namespace Go.Num
open Go.Abs
def exPs : List Ps := [((rcan 0, false), (rcan 0, rcan 0)), ((rcan 0, false), (rcan 2, rcan 0)), ((rcan 0, true), (rcan 2, rcan 2))]
def o2 : Arc := (rcan 0, rcan 0)
theorem rz_2 : rz 2 ≤ 2 := by
 have zt := rz_int 2
 have zt2 : zs 2 ≤ 2 := zs_of (by decide)
 have e2 : (((2 : Int)) : Rat) = 2 := rfl
 rw [e2] at zt
 omega
theorem al_o2 : al o2 = 0 := by unfold o2; rw [al_can, rz_0]; rfl
theorem ok_ex : okPs 1000 exPs := by
 have z2 := rz_2
 intro p hp
 simp only [exPs, List.mem_cons, List.not_mem_nil, or_false] at hp
 rcases hp with rfl | rfl | rfl
 all_goals
  refine ⟨⟨WLR_rcan _, WLR_rcan _, WLR_rcan _⟩, ?_⟩
  simp only [pl, al_can]
  refine Nat.max_le.2 ⟨by show rz 0 ≤ 1000; rw [rz_0]; omega, ?_⟩
  first | (rw [rz_0]; omega) | omega
theorem wl_ex : ∀ p ∈ exPs, WLP p := fun p hp => (ok_ex p hp).1
theorem vld_ex : exPs.all pvld = true := by
 simp only [exPs, List.all_cons, List.all_nil, pvld, avld, tchk_can, vld_rcan]
 decide
theorem imgs_ex : imgs exPs o2 = [(0, 0), (2, 0), (2, 2)] := by
 simp only [imgs, exPs, o2, List.map_cons, List.map_nil, pv, tv, av, rv_rcan, appQ, rotQ, addQ]
 simp only [List.cons.injEq, Prod.mk.injEq, and_true]
 refine ⟨⟨by grind, by grind⟩, ⟨by grind, by grind⟩, by grind, by grind⟩
theorem chk_ex : chkC exPs [o2] = 0 := by
 have e1 : plchk exPs = 0 := by unfold plchk; rw [if_neg (by decide), if_neg (by decide), vld_ex, if_pos rfl]
 have e2 : threeC exPs = 0 := by unfold threeC; rw [e1, if_neg (by decide), if_pos (by decide)]
 unfold chkC placeC
 rw [e2, if_neg (by decide), if_pos]
 simp only [List.all_cons, List.all_nil, avld, o2, vld_rcan]
 decide
theorem cen_ex : cenC exPs o2 = 0 := by
 unfold cenC
 rw [chk_ex, if_neg (by decide), imgs_ex, if_neg]
 decide +kernel
theorem cenQ_ex : cenQ (imgs exPs o2) (av o2) = ((1, 1), (0, 0), 2) := by
 rw [imgs_ex]
 have : av o2 = (0, 0) := by unfold o2 av; simp only [rv_rcan]
 rw [this]
 decide +kernel
def exD (r : Rat) : Dy := ((rcan 1, rcan 1), (rcan 0, rcan 0), rcan r)
theorem pas_ex (r : Rat) : psnC exPs (exD r) = 0 := by
 have e1 : plchk exPs = 0 := by unfold plchk; rw [if_neg (by decide), if_neg (by decide), vld_ex, if_pos rfl]
 unfold psnC
 rw [e1, if_neg (by decide), if_pos]
 simp only [dvld, exD, avld, vld_rcan]
 decide
theorem pasB_ex (r : Rat) : psnB exPs (exD r) = decide (2 = r) := by
 have e := imgs_ex
 unfold o2 at e
 unfold psnB exD
 simp only
 rw [e]
 have a1 : av (rcan 1, rcan 1) = (1, 1) := by unfold av; simp only [rv_rcan]
 have s1 : sqQ (subQ (0, 0) (1, 1)) = 2 := by decide +kernel
 have s2 : sqQ (subQ (2, 0) (1, 1)) = 2 := by decide +kernel
 have s3 : sqQ (subQ (2, 2) (1, 1)) = 2 := by decide +kernel
 rw [a1]
 simp only [List.all_cons, List.all_nil, s1, s2, s3, rv_rcan, Bool.and_true, Bool.and_self]
end Go.Num
namespace Go.Abs
open Go.Num
variable {P : Program} {Γ : Nat → Spec}
def ex46_G (l : List AV) (K : AV → Prop) : Prop :=
 match l with
 | [] => K (psA exPs)
 | _ => False
theorem ex46_Ge (K : AV → Prop) : ex46_G [] K = (K (psA exPs)) := propext Iff.rfl
@[congr] theorem ex46_Gc {K : AV → Prop} {l l' : List AV} (h : l = l') : ex46_G l K = ex46_G l' K := by subst h; rfl
attribute [go_sem] ex46_Ge
attribute [go_sem ↓] ex46_Ge
theorem ex46_good : Good ex46_G := good_of fun as => by
 unfold ex46_G
 split
 ·exact (.ret _)
 ·exact .of fun K hk => hk.elim
def awk46_G (l : List AV) (K : AV → Prop) : Prop :=
 match l with
 | [] => K (.one (.lit (.bool true)))
 | _ => False
theorem awk46_Ge (K : AV → Prop) : awk46_G [] K = (K (.one (.lit (.bool true)))) := propext Iff.rfl
@[congr] theorem awk46_Gc {K : AV → Prop} {l l' : List AV} (h : l = l') : awk46_G l K = awk46_G l' K := by subst h; rfl
attribute [go_sem] awk46_Ge
attribute [go_sem ↓] awk46_Ge
theorem awk46_good : Good awk46_G := good_of fun as => by
 unfold awk46_G
 split
 ·exact (.ret _)
 ·exact .of fun K hk => hk.elim
def lLines_G (l : List AV) (K : AV → Prop) : Prop :=
 match l with
 | [a, b] => onPs (fun l => onA (fun m => okPs 1048576 l ∧ al m ≤ 1048576 ∧ K (.one (.lit (.bool true)))) b) a
 | _ => False
theorem lLines_Ge (a b : AV) (K : AV → Prop) : lLines_G [a, b] K = (onPs (fun l => onA (fun m => okPs 1048576 l ∧ al m ≤ 1048576 ∧ K (.one (.lit (.bool true)))) b) a) := propext Iff.rfl
@[congr] theorem lLines_Gc {K : AV → Prop} {l l' : List AV} (h : l = l') : lLines_G l K = lLines_G l' K := by subst h; rfl
attribute [go_sem] lLines_Ge
attribute [go_sem ↓] lLines_Ge
def ac_linkworklaw46_Example (f0 : Nat) : AC := (.seq (.ops false [.m 0 (.c (.one .emp))])
 (.fg [] (.seq (.ops false [.u 2 (.call f0 [(.i 2)]), .u 1 (.alloc [(.lit (.bool false)), .emp, .emp]), .n (.st none 3 (.t 1) (.t 2))])
 (.fg [1] (.seq (.ops false [.u 3 (.build [.z [(.lit (.bool false)), .emp, .emp, (.lit (.bool false)), (.lit (.bool false)), .emp, .emp, (.lit (.bool false)), .emp, .emp]]), .u 4 (.ld none 3 true (.t 1)), .u 5 (.build [.x 3 (.t 4), .z [(.lit (.bool false)), .emp, .emp]]), .u 6 (.build [.z [(.lit (.bool false)), .emp, .emp, (.lit (.bool false))], .x 6 (.t 5)]), .u 7 (.build [.z [(.lit (.bool false)), .emp, .emp], .x 1 .tr]), .u 8 (.ld none 3 true (.t 1)), .u 9 (.ld none 3 true (.t 1)), .u 10 (.build [.x 3 (.t 8), .x 3 (.t 9)]), .u 11 (.build [.x 4 (.t 7), .x 6 (.t 10)]), .u 12 (.row 10 [[.x 10 (.t 3)], [.x 10 (.t 6)], [.x 10 (.t 11)]]), .m 0 (.t 12)])
 .ret)))))
def ac_linkworklaw46_awake (f0 f1 f2 f3 f4 : Nat) : AC := (.seq (.ops false [.m 0 .fa])
 (.fg [] (.seq (.ops false [.u 8 (.call f0 []), .u 9 (.build [.z [(.lit (.bool false)), .emp, .emp, (.lit (.bool false)), .emp, .emp]]), .u 10 (.call f1 [(.t 8), (.t 9)]), .m 7 (.t 10), .u 11 (.ext 0 (.t 7)), .u 12 (.ext 1 (.t 7)), .u 1 (.alloc [(.lit (.bool false)), .emp, .emp, (.lit (.bool false)), .emp, .emp, (.lit (.bool false)), .emp, .emp, (.lit (.bool false)), .emp, .emp, (.lit (.bool false)), .emp, .emp]), .n (.st none 15 (.t 1) (.t 11)), .m 2 (.t 12)])
 (.fg [1, 2] (.seq (.ops true [.u 14 (.call f0 []), .u 15 (.ld none 15 true (.t 1)), .u 16 (.call f2 [(.t 14), (.t 15)]), .m 13 (.t 16), .u 17 (.ext 0 (.t 13)), .u 18 (.ext 1 (.t 13)), .m 3 (.t 17), .m 4 (.t 18)])
 (.fg [1, 2, 3, 4] (.seq (.ops false [.u 19 (.call f3 [(.i 3)]), .u 20 (.fa 12 (.t 1)), .n (.st none 3 (.t 20) (.t 19))])
 (.fg [1, 2, 3, 4] (.seq (.ops true [.u 22 (.call f0 []), .u 23 (.ld none 15 true (.t 1)), .u 24 (.call f2 [(.t 22), (.t 23)]), .m 21 (.t 24), .u 25 (.ext 0 (.t 21)), .u 26 (.ext 1 (.t 21)), .m 5 (.t 25), .m 6 (.t 26)])
 (.fg [1, 2, 3, 4, 5, 6] (.seq (.ops false [.m 27 (.t 2), .u 28 (.binn .eql (.t 27) (.c (.one (.lit .nilIface)))), .m 29 (.t 28), .w 30 29 true (.mv (.t 4)), .w 31 29 true (.binn .eql (.t 30) (.c (.one (.lit .nilIface)))), .u 32 (.pick (.t 29) (.t 31) .fa), .m 33 (.t 32), .w 34 33 true (.mv (.t 6)), .w 35 33 true (.binn .eql (.t 34) (.c (.one (.lit .nilIface)))), .u 36 (.pick (.t 33) (.t 35) .fa), .m 37 (.t 36), .w 38 37 true (.mv (.t 3)), .u 39 (.pick (.t 37) (.t 38) .fa), .m 40 (.t 39), .w 41 40 true (.mv (.t 5)), .w 42 40 true (.un .not (.t 41)), .u 43 (.pick (.t 40) (.t 42) .fa), .m 44 (.t 43), .w 45 44 true (.fa 0 (.t 1)), .w 46 44 true (.fa 0 (.t 45)), .w 47 44 true (.ld none 3 true (.t 46)), .w 48 44 true (.call f4 [(.t 47)]), .w 49 44 true (.sop 1 [(.t 48), (.c (.one (.lit (.string ⟨#[49]⟩))))]), .u 50 (.pick (.t 44) (.t 49) .fa), .m 51 (.t 50), .w 52 51 true (.fa 0 (.t 1)), .w 53 51 true (.fa 3 (.t 52)), .w 54 51 true (.ld none 3 true (.t 53)), .w 55 51 true (.call f4 [(.t 54)]), .w 56 51 true (.sop 1 [(.t 55), (.c (.one (.lit (.string ⟨#[49]⟩))))]), .u 57 (.pick (.t 51) (.t 56) .fa), .m 0 (.t 57)])
 .ret)))))))))))
theorem ex46_sound (hΓ : Holds P Γ) {f fo : Nat} (ho : Γ fo = .dat false rof_G) (hc : check P f = some (13, (ac_linkworklaw46_Example fo).strip, [.tmp 0])) : Sound P f (.dat false ex46_G) := by
 refine sound_dat hc ex46_good hΓ (fun args K hcl hfi hG => ?_)
 match args, hG with
 | [], hG =>
  have hK := hG
  simp only [ex46_G, psA, psC, exPs, List.map_cons, List.map_nil, pC, rcan_zero] at hK
  refine ⟨by simp, ?_⟩
  have e2 : (((2 : Int)) : Rat) = 2 := rfl
  simp only [go_sem, ac_linkworklaw46_Example, ho, e2]
  repeat (first | (refine And.intro (by omega) ?_) | (refine And.intro (by assumption) ?_) | (refine And.intro rfl ?_) | (refine And.intro ⟨rfl, by omega⟩ ?_) | (refine And.intro ⟨rfl, by omega, by omega⟩ ?_) | (intro _))
  exact hK
theorem awk46_sound (hΓ : Holds P Γ) {f fe fc fp fo ft tE : Nat} (he : Γ fe = .dat false ex46_G) (hx : Γ fc = .dat false (tcentre_G tE)) (hp : Γ fp = .dat false (tpasses_G tE)) (ho : Γ fo = .dat false rof_G) (ht : Γ ft = .dat false rtext_G) (hc : check P f = some (58, (ac_linkworklaw46_awake fe fc fp fo ft).strip, [.tmp 0])) : Sound P f (.dat true awk46_G) := by
 refine sound_dat hc awk46_good hΓ (fun args K hcl hfi hG => ?_)
 match args, hG with
 | [], hG =>
  have hK := hG
  simp only [awk46_G] at hK
  refine ⟨by simp, ?_⟩
  have o2e : ((rcan 0, rcan 0) : Arc) = o2 := rfl
  have dde : ∀ r : Rat, (((rcan 1, rcan 1), (rcan 0, rcan 0), rcan r) : Dy) = exD r := fun _ => rfl
  have dde' : ∀ r : Rat, (((rcan 1, rcan 1), o2, rcan r) : Dy) = exD r := fun _ => rfl
  have e3 : (((3 : Int)) : Rat) = 3 := rfl
  have cq := cenQ_ex
  have b2 : psnB exPs (exD 2) = true := by rw [pasB_ex]; rfl
  have b3 : psnB exPs (exD 3) = false := by rw [pasB_ex]; decide
  simp only [go_sem, ac_linkworklaw46_awake, he, hx, hp, ho, ht, o2e, dde, dde', e3, cq, cen_ex, pas_ex, errV_0, b2, b3, rv_rcan, al_o2, Bool.and_true, Bool.and_false, Bool.true_and, Bool.false_and]
  have st : ((⟨#[49]⟩ : ByteArray).toList == (⟨#[49]⟩ : ByteArray).toList) = true := beq_self_eq_true _
  rw [st]
  have w2 : ∀ r, WLD (exD r) := fun r => ⟨⟨WLR_rcan _, WLR_rcan _⟩, ⟨WLR_rcan _, WLR_rcan _⟩, WLR_rcan _⟩
  have i1 := rz_1
  have i2 := rz_2
  have i3 := rz_int 3
  have i4 : zs 3 ≤ 2 := zs_of (by decide)
  rw [e3] at i3
  have l2 : ∀ r, rz r ≤ 5 → dl (exD r) ≤ 100000 := fun r hr => by
   have e1 : dl (exD r) = max (max (rz 1) (rz 1)) (max (max (rz 0) (rz 0)) (rz r)) := rfl
   rw [e1, rz_0]; omega
  exact ⟨wl_ex, ok_ex, wl_ex, w2 _, ok_ex, l2 _ (by omega), by decide, by decide, wl_ex, w2 _, ok_ex, l2 _ (by omega), by omega, fun _ => ⟨by omega, hK⟩, fun h => by contradiction⟩
theorem chk_place {l : List Ps} {m : Arc} (h : threeC l = 0) : chkC l [m] = if avld m = true then 0 else 2 := by
 unfold chkC placeC
 rw [if_neg (by omega)]
 cases hm : avld m <;> simp [hm]
theorem short_ok {l : List Ps} (hw : ∀ p ∈ l, WLP p) (h : l.all sP = true) : okPs 2 l := by
 intro p hp
 have hs := List.all_eq_true.1 h p hp
 simp only [sP, Bool.and_eq_true] at hs
 exact ⟨hw p hp, Nat.max_le.2 ⟨sR_rl hs.1, Nat.max_le.2 ⟨sR_rl hs.2.1, sR_rl hs.2.2⟩⟩⟩
theorem short_al {m : Arc} (h : sA m = true) : al m ≤ 2 := by
 simp only [sA, Bool.and_eq_true] at h
 exact Nat.max_le.2 ⟨sR_rl h.1, sR_rl h.2⟩
end Go.Abs
end
section
set_option linter.unusedVariables false
set_option linter.unusedSimpArgs false
set_option maxRecDepth 100000
namespace Go.Num
open Go.Abs
instance decAR : DecidableEq (Arc × R) := instDecidableEqProd
instance decDy : DecidableEq Dy := instDecidableEqProd
def dz : Dy := (((false, [], []), (false, [], [])), ((false, [], []), (false, [], [])), (false, [], []))
def cenR (A : List V2) (m : Arc) : Dy := (acan (ciV A), m, rcan (sqQ (subQ (pt 0 A) (ciV A))))
def movR (A : List V2) (m : Arc) : Dy := (m, acan (ciV A), rcan (sqQ (subQ (pt 0 A) (ciV A))))
def pcan (p : PsQ) : Ps := ((rcan p.1.1, p.1.2), acan p.2)
theorem pv_can (p : PsQ) : pv (pcan p) = p := by unfold pv pcan tv; simp only [rv_rcan, av_can]
def bkQ (l : List Ps) : List PsQ := l.map fun p => invQ (pv p)
def imgsB (l : List Ps) (o : Arc) : List V2 := l.map fun p => appQ (invQ (pv p)) (av o)
theorem imgs_bk (l : List Ps) (o : Arc) : imgs ((bkQ l).map pcan) o = imgsB l o := by
 unfold imgs bkQ imgsB
 simp only [List.map_map]
 refine List.map_congr_left fun p _ => ?_
 simp only [Function.comp, pv_can]
theorem imgsB_len (l : List Ps) (q : Arc) : (imgsB l q).length = l.length := by unfold imgsB; rw [List.length_map]
theorem bk_len (l : List Ps) : (bkQ l).length = l.length := by unfold bkQ; rw [List.length_map]
theorem bk_take {l : List Ps} {k : Nat} {p : Ps} (h : l[k]? = some p) : bkQ (l.take (k + 1)) = bkQ (l.take k) ++ [invQ (pv p)] := by
 unfold bkQ; rw [List.take_add_one, h]; simp
theorem WLP_can (p : PsQ) : WLP (pcan p) := ⟨WLR_rcan _, WLA_can _⟩
theorem zq_inv {p : Ps} {b : Nat} (h : okP b p) : okP (10 * b + 46) (pcan (invQ (pv p))) := by
 refine ⟨WLP_can _, ?_⟩
 obtain ⟨h1, h2⟩ := h
 have r1 : rz (rv p.1.1) ≤ rl p.1.1 := rz_rv h1.1
 have e1 : rl p.1.1 ≤ b := Nat.le_trans (Nat.le_max_left _ _) h2
 have e2 : al p.2 ≤ b := Nat.le_trans (Nat.le_max_right _ _) h2
 have r2 := av_le h1.2
 have z := zq_rot (backQ (tv p.1)) (negQ (av p.2))
 have z1 := zq_neg (av p.2)
 have z2 : rz (backQ (tv p.1)).1 = rz (rv p.1.1) := rz_neg _
 have e : pl (pcan (invQ (pv p))) = max (rz (backQ (tv p.1)).1) (zq (rotQ (backQ (tv p.1)) (negQ (av p.2)))) := rfl
 rw [e]
 exact Nat.max_le.2 ⟨by omega, by omega⟩
theorem okPs_bk {l : List Ps} {b : Nat} (h : okPs b l) : okPs (10 * b + 46) ((bkQ l).map pcan) := by
 intro p hp
 obtain ⟨q, hq, rfl⟩ := List.mem_map.1 hp
 obtain ⟨p, hp', rfl⟩ := List.mem_map.1 hq
 exact zq_inv (h p hp')
theorem vld_bk {p : Ps} (h : pvld p = true) : pvld (pcan (invQ (pv p))) = true := by
 unfold pvld at *
 rw [Bool.and_eq_true, decide_eq_true_eq] at h
 have e1 : tchk (pcan (invQ (pv p))).1 = 0 := tchk_neg h.1
 have e2 : avld (pcan (invQ (pv p))).2 = true := by
  show (vldR (rcan _) && vldR (rcan _)) = true
  rw [vld_rcan, vld_rcan]; rfl
 rw [e1, e2]; rfl
theorem imgC_bk {l : List Ps} {o : Arc} (h : l.all pvld = true) (ho : avld o = true) : imgC ((bkQ l).map pcan) o = 0 := by
 unfold imgC
 rw [if_pos]
 rw [List.all_eq_true] at h ⊢
 intro p hp
 obtain ⟨q, hq, rfl⟩ := List.mem_map.1 hp
 obtain ⟨p, hp', rfl⟩ := List.mem_map.1 hq
 simp only [aok, vld_bk (h p hp'), ho, Bool.and_self]
def movC (l : List Ps) (o : Arc) : Nat := if chkC l [o] ≠ 0 then chkC l [o] else if crV (imgsB l o) = 0 then 8 else 0
def movQ (A : List V2) (o : V2) : DyQ := (o, ciV A, sqQ (subQ (pt 0 A) (ciV A)))
theorem zq_ptB {l : List Ps} {m : Arc} {b c : Nat} (h : okPs b l) (hw : WLA m) (hm : al m ≤ c) (i : Nat) : zq (pt i (imgsB l m)) ≤ 9 * (10 * b + 46) + 2 * c + 48 := by
 rw [← imgs_bk]; exact zq_pt (okPs_bk h) hw hm i
theorem okAs_imgsB {l : List Ps} {m : Arc} {b c : Nat} (h : okPs b l) (hw : WLA m) (hm : al m ≤ c) : okAs (9 * (10 * b + 46) + 2 * c + 48) ((imgsB l m).map acan) := by
 rw [← imgs_bk]; exact okAs_imgs (okPs_bk h) hw hm
end Go.Num
namespace Go.Abs
open Go.Num
variable {P : Program} {Γ : Nat → Spec}
theorem okB_c {h h' : Nat → HB} {z : Nat} {b : Bool} {es : List (List C)} (hc : CleanR es) : okB h h' (some ⟨es, z, b⟩) (some ⟨es, z, b⟩) := ⟨⟨rfl, rfl⟩, .inl ⟨rfl, hc⟩⟩
def rcentre_G (l : List AV) (K : AV → Prop) : Prop :=
 match l with
 | [a, b] => onPs (fun l => onA (fun m => okPs 1000 l ∧ al m ≤ 10000 ∧ l.length = 3 ∧ K (.tup [dA (if crV (imgs l m) = 0 then dz else cenR (imgs l m) m), .one (.lit (.int .i64 (if crV (imgs l m) = 0 then 8 else 0)))])) b) a
 | _ => False
theorem rcentre_Ge (a b : AV) (K : AV → Prop) : rcentre_G [a, b] K = (onPs (fun l => onA (fun m => okPs 1000 l ∧ al m ≤ 10000 ∧ l.length = 3 ∧ K (.tup [dA (if crV (imgs l m) = 0 then dz else cenR (imgs l m) m), .one (.lit (.int .i64 (if crV (imgs l m) = 0 then 8 else 0)))])) b) a) := propext Iff.rfl
@[congr] theorem rcentre_Gc {K : AV → Prop} {l l' : List AV} (h : l = l') : rcentre_G l K = rcentre_G l' K := by subst h; rfl
attribute [go_sem] rcentre_Ge
attribute [go_sem ↓] rcentre_Ge
def rmoving_G (l : List AV) (K : AV → Prop) : Prop :=
 match l with
 | [a, b] => onPs (fun l => onA (fun m => okPs 1000 l ∧ al m ≤ 10000 ∧ l.length = 3 ∧ K (.tup [dA (if crV (imgsB l m) = 0 then dz else movR (imgsB l m) m), .one (.lit (.int .i64 (if crV (imgsB l m) = 0 then 8 else 0)))])) b) a
 | _ => False
theorem rmoving_Ge (a b : AV) (K : AV → Prop) : rmoving_G [a, b] K = (onPs (fun l => onA (fun m => okPs 1000 l ∧ al m ≤ 10000 ∧ l.length = 3 ∧ K (.tup [dA (if crV (imgsB l m) = 0 then dz else movR (imgsB l m) m), .one (.lit (.int .i64 (if crV (imgsB l m) = 0 then 8 else 0)))])) b) a) := propext Iff.rfl
@[congr] theorem rmoving_Gc {K : AV → Prop} {l l' : List AV} (h : l = l') : rmoving_G l K = rmoving_G l' K := by subst h; rfl
attribute [go_sem] rmoving_Ge
attribute [go_sem ↓] rmoving_Ge
def tmoving_G (tE : Nat) (l : List AV) (K : AV → Prop) : Prop :=
 match l with
 | [a, b] => onPs (fun l => onA (fun m => okPs 1000 l ∧ al m ≤ 10000 ∧ K (.tup [dqA (if movC l m = 0 then movQ (imgsB l m) (av m) else d0), errV tE (movC l m)])) b) a
 | _ => False
theorem tmoving_Ge (tE : Nat) (a b : AV) (K : AV → Prop) : tmoving_G tE [a, b] K = (onPs (fun l => onA (fun m => okPs 1000 l ∧ al m ≤ 10000 ∧ K (.tup [dqA (if movC l m = 0 then movQ (imgsB l m) (av m) else d0), errV tE (movC l m)])) b) a) := propext Iff.rfl
@[congr] theorem tmoving_Gc (tE : Nat) {K : AV → Prop} {l l' : List AV} (h : l = l') : tmoving_G tE l K = tmoving_G tE l' K := by subst h; rfl
attribute [go_sem] tmoving_Ge
attribute [go_sem ↓] tmoving_Ge
theorem tmoving_good (tE : Nat) : Good (tmoving_G tE) := good_of fun as => by
 unfold tmoving_G
 split
 ·exact (g_onPs fun _ => (g_onA fun _ => (.and fun _ => (.and fun _ => (.ret _)))))
 ·exact .of fun K hk => hk.elim
def rpasses_G (l : List AV) (K : AV → Prop) : Prop :=
 match l with
 | [a, b] => onPs (fun l => onDy (fun d => okPs 1000 l ∧ dl d ≤ 100000 ∧ l.length ≤ 1000 ∧ K (.one (.lit (.bool (psnB l d))))) b) a
 | _ => False
theorem rpasses_Ge (a b : AV) (K : AV → Prop) : rpasses_G [a, b] K = (onPs (fun l => onDy (fun d => okPs 1000 l ∧ dl d ≤ 100000 ∧ l.length ≤ 1000 ∧ K (.one (.lit (.bool (psnB l d))))) b) a) := propext Iff.rfl
@[congr] theorem rpasses_Gc {K : AV → Prop} {l l' : List AV} (h : l = l') : rpasses_G l K = rpasses_G l' K := by subst h; rfl
attribute [go_sem] rpasses_Ge
attribute [go_sem ↓] rpasses_Ge
def rdyad_G (l : List AV) (K : AV → Prop) : Prop :=
 match l with
 | [a] => onDy (fun d => dl d ≤ 100000 ∧ K (.one (.lit (.bool (dvld d))))) a
 | _ => False
theorem rdyad_Ge (a : AV) (K : AV → Prop) : rdyad_G [a] K = (onDy (fun d => dl d ≤ 100000 ∧ K (.one (.lit (.bool (dvld d))))) a) := propext Iff.rfl
@[congr] theorem rdyad_Gc {K : AV → Prop} {l l' : List AV} (h : l = l') : rdyad_G l K = rdyad_G l' K := by subst h; rfl
attribute [go_sem] rdyad_Ge
attribute [go_sem ↓] rdyad_Ge
def rdshort_G (l : List AV) (K : AV → Prop) : Prop :=
 match l with
 | [a] => onDy (fun d => dl d ≤ 4294967296 ∧ K (.one (.lit (.bool (sA d.1 && (sA d.2.1 && sR 4 d.2.2)))))) a
 | _ => False
theorem rdshort_Ge (a : AV) (K : AV → Prop) : rdshort_G [a] K = (onDy (fun d => dl d ≤ 4294967296 ∧ K (.one (.lit (.bool (sA d.1 && (sA d.2.1 && sR 4 d.2.2)))))) a) := propext Iff.rfl
@[congr] theorem rdshort_Gc {K : AV → Prop} {l l' : List AV} (h : l = l') : rdshort_G l K = rdshort_G l' K := by subst h; rfl
attribute [go_sem] rdshort_Ge
attribute [go_sem ↓] rdshort_Ge
def dequal_G (l : List AV) (K : AV → Prop) : Prop :=
 match l with
 | [a, b] => onDy (fun d => onDy (fun e => dl d ≤ 4294967296 ∧ K (.one (.lit (.bool (decide (d = e)))))) b) a
 | _ => False
theorem dequal_Ge (a b : AV) (K : AV → Prop) : dequal_G [a, b] K = (onDy (fun d => onDy (fun e => dl d ≤ 4294967296 ∧ K (.one (.lit (.bool (decide (d = e)))))) b) a) := propext Iff.rfl
@[congr] theorem dequal_Gc {K : AV → Prop} {l l' : List AV} (h : l = l') : dequal_G l K = dequal_G l' K := by subst h; rfl
attribute [go_sem] dequal_Ge
attribute [go_sem ↓] dequal_Ge
theorem dequal_good : Good dequal_G := good_of fun as => by
 unfold dequal_G
 split
 ·exact (g_onDy fun _ => (g_onDy fun _ => (.and fun _ => (.ret _))))
 ·exact .of fun K hk => hk.elim
def ac_threepos_Moving (f0 f1 f2 f3 f4 f5 f6 : Nat) : AC := (.seq (.ops false [.u 3 (.box 6 (.t 1)), .u 4 (.alloc [(.lit (.bool false)), .emp, .emp, (.lit (.bool false)), .emp, .emp, (.lit (.bool false)), .emp, .emp, (.lit (.bool false)), .emp, .emp, (.lit (.bool false)), .emp, .emp]), .m 5 (.c (.one (.lit .nilIface)))])
 (.fg [0, 3, 4] (.seq (.seq (.ops false [.m 15 (.t 0), .u 16 (.ld none 6 true (.t 3)), .u 17 (.row 6 [[.x 6 (.t 16)]]), .u 18 (.call f0 [(.t 15), (.t 17)]), .m 6 (.t 18)])
 (.fg [0, 3, 4, 6] (.seq (.ops false [.m 19 (.t 6), .u 20 (.binn .neq (.t 19) (.c (.one (.lit .nilIface))))])
 (.fg [0, 3, 4, 6, 20] (.cond (.t 20) (.seq (.ops false [.u 21 (.build [.z [(.lit (.bool false)), .emp, .emp, (.lit (.bool false)), .emp, .emp, (.lit (.bool false)), .emp, .emp, (.lit (.bool false)), .emp, .emp, (.lit (.bool false)), .emp, .emp]]), .m 22 (.t 6), .n (.st none 15 (.t 4) (.t 21)), .m 5 (.t 22)])
 .ret) .skip)))))
 (.fg [0, 3, 4] (.seq (.ops false [.m 7 (.c (.one .emp))])
 (.fg [0, 3, 4, 7] (.seq (.seq (.ops false [.m 23 (.t 0), .u 24 (.len (.t 23)), .m 25 (.i 0)])
 (.fg [3, 4, 7, 23, 24, 25] (.block 0 (.loop (.seq (.ops false [.u 26 (.bin .lss (.t 25) (.t 24))])
 (.fg [3, 4, 7, 23, 24, 25, 26] (.seq (.cond (.t 26) .skip (.exit 0))
 (.fg [3, 4, 7, 23, 24, 25] (.seq (.block 1 (.seq (.ops false [.u 27 (.idx 10 (.t 23) (.t 25)), .u 28 (.ld none 10 true (.t 27)), .u 9 (.alloc [(.lit (.bool false)), .emp, .emp, (.lit (.bool false)), (.lit (.bool false)), .emp, .emp, (.lit (.bool false)), .emp, .emp]), .n (.st none 10 (.t 9) (.t 28))])
 (.fg [3, 4, 7, 9, 23, 24, 25] (.seq (.ops false [.u 30 (.ld none 10 true (.t 9)), .u 31 (.call f1 [(.t 30)]), .m 29 (.t 31), .u 32 (.ext 0 (.t 29)), .u 33 (.ext 1 (.t 29)), .u 10 (.alloc [(.lit (.bool false)), .emp, .emp, (.lit (.bool false)), (.lit (.bool false)), .emp, .emp, (.lit (.bool false)), .emp, .emp]), .n (.st none 10 (.t 10) (.t 32)), .m 11 (.t 33)])
 (.fg [3, 4, 7, 10, 11, 23, 24, 25] (.seq (.seq (.ops false [.m 34 (.t 11), .u 35 (.binn .neq (.t 34) (.c (.one (.lit .nilIface))))])
 (.fg [3, 4, 7, 10, 11, 23, 24, 25, 35] (.cond (.t 35) (.seq (.ops false [.u 36 (.build [.z [(.lit (.bool false)), .emp, .emp, (.lit (.bool false)), .emp, .emp, (.lit (.bool false)), .emp, .emp, (.lit (.bool false)), .emp, .emp, (.lit (.bool false)), .emp, .emp]]), .m 37 (.t 11), .n (.st none 15 (.t 4) (.t 36)), .m 5 (.t 37)])
 .ret) .skip)))
 (.fg [3, 4, 7, 10, 23, 24, 25] (.ops false [.m 38 (.t 7), .u 39 (.ld none 10 true (.t 10)), .u 40 (.row 10 [[.x 10 (.t 39)]]), .u 41 (.app 10 (.t 38) (.t 40)), .m 7 (.t 41)]))))))))
 (.fg [3, 4, 7, 23, 24, 25] (.ops false [.u 42 (.bin .add (.t 25) (.i 1)), .m 25 (.t 42)])))))))))))
 (.fg [3, 4, 7] (.seq (.ops false [.m 44 (.t 7), .u 45 (.ld none 6 true (.t 3)), .u 46 (.call f2 [(.t 44), (.t 45)]), .m 43 (.t 46), .u 47 (.ext 0 (.t 43)), .u 48 (.ext 1 (.t 43)), .m 12 (.t 47), .m 13 (.t 48)])
 (.fg [3, 4, 12, 13] (.seq (.seq (.ops false [.m 49 (.t 13), .u 50 (.binn .neq (.t 49) (.c (.one (.lit .nilIface))))])
 (.fg [3, 4, 12, 13, 50] (.cond (.t 50) (.seq (.ops false [.u 51 (.build [.z [(.lit (.bool false)), .emp, .emp, (.lit (.bool false)), .emp, .emp, (.lit (.bool false)), .emp, .emp, (.lit (.bool false)), .emp, .emp, (.lit (.bool false)), .emp, .emp]]), .m 52 (.t 13), .n (.st none 15 (.t 4) (.t 51)), .m 5 (.t 52)])
 .ret) .skip)))
 (.fg [3, 4, 12] (.seq (.ops false [.m 54 (.t 12), .u 55 (.call f3 [(.t 54)]), .m 53 (.t 55), .u 56 (.ext 0 (.t 53)), .u 57 (.ext 1 (.t 53)), .u 14 (.alloc [(.lit (.bool false)), .emp, .emp, (.lit (.bool false)), .emp, .emp]), .n (.st none 6 (.t 14) (.t 56)), .m 13 (.t 57)])
 (.fg [3, 4, 12, 13, 14] (.seq (.seq (.ops false [.m 58 (.t 13), .u 59 (.binn .neq (.t 58) (.c (.one (.lit .nilIface))))])
 (.fg [3, 4, 12, 13, 14, 59] (.cond (.t 59) (.seq (.ops false [.u 60 (.build [.z [(.lit (.bool false)), .emp, .emp, (.lit (.bool false)), .emp, .emp, (.lit (.bool false)), .emp, .emp, (.lit (.bool false)), .emp, .emp, (.lit (.bool false)), .emp, .emp]]), .m 61 (.t 13), .n (.st none 15 (.t 4) (.t 60)), .m 5 (.t 61)])
 .ret) .skip)))
 (.fg [3, 4, 12, 14] (.seq (.ops true [.u 62 (.ld none 6 true (.t 3)), .u 63 (.call f4 [(.t 62)]), .u 64 (.ld none 6 true (.t 14)), .m 65 (.t 12), .u 66 (.idx 6 (.t 65) (.i 0)), .u 67 (.ld none 6 true (.t 66)), .u 68 (.ld none 6 true (.t 14)), .u 69 (.call f5 [(.t 67), (.t 68)]), .u 70 (.call f6 [(.t 69)]), .u 71 (.build [.x 6 (.t 63), .x 6 (.t 64), .x 3 (.t 70)]), .n (.st none 15 (.t 4) (.t 71)), .m 5 (.c (.one (.lit .nilIface)))])
 .ret)))))))))))))))))
def ac_linkworklaw46_equal (f0 f1 : Nat) : AC := (.seq (.ops false [.u 2 (.box 15 (.t 0)), .u 3 (.box 15 (.t 1)), .m 4 .fa])
 (.fg [2, 3] (.seq (.ops false [.u 5 (.fa 0 (.t 2)), .u 6 (.ld none 6 true (.t 5)), .u 7 (.fa 0 (.t 3)), .u 8 (.ld none 6 true (.t 7)), .u 9 (.call f0 [(.t 6), (.t 8)]), .m 10 (.t 9), .w 11 10 true (.fa 6 (.t 2)), .w 12 10 true (.ld none 6 true (.t 11)), .w 13 10 true (.fa 6 (.t 3)), .w 14 10 true (.ld none 6 true (.t 13)), .w 15 10 true (.call f0 [(.t 12), (.t 14)]), .u 16 (.pick (.t 10) (.t 15) .fa), .m 17 (.t 16), .w 18 17 true (.fa 12 (.t 2)), .w 19 17 true (.ld none 3 true (.t 18)), .w 20 17 true (.fa 12 (.t 3)), .w 21 17 true (.ld none 3 true (.t 20)), .w 22 17 true (.call f1 [(.t 19), (.t 21)]), .u 23 (.pick (.t 17) (.t 22) .fa), .m 4 (.t 23)])
 .ret)))
theorem dequal_sound (hΓ : Holds P Γ) {f fs fr : Nat} (hs : Γ fs = .dat true lsame_G) (hr : Γ fr = .dat true brat_G) (hc : check P f = some (24, (ac_linkworklaw46_equal fs fr).strip, [.tmp 4])) : Sound P f (.dat true dequal_G) := by
 refine sound_dat hc dequal_good hΓ (fun args K hcl hfi hG => ?_)
 match args, hG with
 | [a, b], hG =>
  obtain ⟨⟨c, m, r⟩, rfl, ⟨hwc, hwm, hwr⟩, ⟨c', m', r'⟩, rfl, ⟨hwc', hwm', hwr'⟩, hd, hK⟩ := hG
  refine ⟨by simp, ?_⟩
  have dc : al c ≤ 4294967296 := Nat.le_trans (Nat.le_max_left _ _) hd
  have dm : al m ≤ 4294967296 := Nat.le_trans (Nat.le_trans (Nat.le_max_left _ _) (Nat.le_max_right _ _)) hd
  have dr : rl r ≤ 4294967296 := Nat.le_trans (Nat.le_trans (Nat.le_max_right _ _) (Nat.le_max_right _ _)) hd
  simp only at hwc hwm hwr hwc' hwm' hwr'
  have e : decide ((c, m, r) = (c', m', r')) = (decide (c = c') && (decide (m = m') && decide (r = r'))) := by
   rw [← Bool.decide_and, ← Bool.decide_and, decide_eq_decide]; simp only [Prod.mk.injEq]
  rw [e] at hK
  cases h1 : decide (c = c') with
  | false =>
   rw [h1] at hK
   simp only [go_sem, ac_linkworklaw46_equal, hs, hr, dA, dC, mk_eta, h1]
   repeat (first | (refine And.intro (by omega) ?_) | (refine And.intro (by assumption) ?_) | (refine And.intro rfl ?_) | (refine And.intro ⟨rfl, by omega⟩ ?_) | (refine And.intro ⟨rfl, by omega, by omega⟩ ?_) | (intro _))
   exact hK
  | true =>
   cases h2 : decide (m = m') with
   | false =>
    rw [h1, h2] at hK
    simp only [go_sem, ac_linkworklaw46_equal, hs, hr, dA, dC, mk_eta, h1, h2]
    repeat (first | (refine And.intro (by omega) ?_) | (refine And.intro (by assumption) ?_) | (refine And.intro rfl ?_) | (refine And.intro ⟨rfl, by omega⟩ ?_) | (refine And.intro ⟨rfl, by omega, by omega⟩ ?_) | (intro _))
    exact hK
   | true =>
    rw [h1, h2, Bool.true_and, Bool.true_and] at hK
    simp only [go_sem, ac_linkworklaw46_equal, hs, hr, dA, dC, mk_eta, h1, h2]
    repeat (first | (refine And.intro (by omega) ?_) | (refine And.intro (by assumption) ?_) | (refine And.intro rfl ?_) | (refine And.intro ⟨rfl, by omega⟩ ?_) | (refine And.intro ⟨rfl, by omega, by omega⟩ ?_) | (intro _))
    exact hK
theorem okB_ps {h h' : Nat → HB} {z : Nat} {b : Bool} {es : List (List C)} {l' : List Ps} (e : es = l'.map pC) : okB h h' (some ⟨es, z, b⟩) (some ⟨l'.map pC, z, b⟩) := okB_p e
theorem take_pC (l : List Ps) (n : Nat) : (l.map pC).take n = (l.take n).map pC := by rw [List.map_take]
theorem tmoving_sound (hΓ : Holds P Γ) {f fk fv fi fc fn fs fq tE : Nat} (hk : Γ fk = .dat false (tchk3_G tE)) (hv : Γ fv = .dat false (pinv_G tE)) (hi : Γ fi = .dat false (pimgs_G tE)) (hx : Γ fc = .dat false (pcirc_G tE)) (hn : Γ fn = .dat false pclone_G) (hs : Γ fs = .dat false pless_G) (hq' : Γ fq = .dat false psq_G) (hc : check P f = some (72, (ac_threepos_Moving fk fv fi fc fn fs fq).strip, [.cell 4 15 true, .tmp 5])) : Sound P f (.dat false (tmoving_G tE)) := by
 refine sound_dat hc (tmoving_good tE) hΓ (fun args K hcl hfi hG => ?_)
 match args, hG with
 | [a, b], hG =>
  obtain ⟨l, rfl, hwl, m, rfl, hwm, hok, hm, hK⟩ := hG
  refine ⟨by simp, ?_⟩
  have ok1 := okPs_mono hok (by decide : 1000 ≤ 100000000)
  have om : okAs 100000000 [m] := fun z hz => by rw [List.mem_singleton.1 hz]; exact ⟨hwm, by omega⟩
  have hm3 : al m ≤ 100000000 := by omega
  by_cases h0 : chkC l [m] = 0
  ·obtain ⟨h3, hvl, hav, hi0⟩ := chk_0 h0
   have ec : movC l m = if crV (imgsB l m) = 0 then 8 else 0 := by unfold movC; rw [if_neg (by omega)]
   rw [ec] at hK
   have hib := imgC_bk (o := m) hvl hav
   have okb := okPs_mono (okPs_bk hok) (by decide : 10 * 1000 + 46 ≤ 1000000)
   have wlb : ∀ p ∈ (bkQ l).map pcan, WLP p := fun p hp => (okb p hp).1
   have ims := imgs_bk l m
   have bl : ((bkQ l).map pcan).length ≤ 100000 := by rw [List.length_map, bk_len]; omega
   have hm1 : al m ≤ 1000000 := by omega
   have hA := okAs_imgsB hok hwm hm
   have hz0 := zq_ptB hok hwm hm 0
   have hz1 := zq_ptB hok hwm hm 1
   have hz2 := zq_ptB hok hwm hm 2
   have hla := imgsB_len l m
   have hwA := WLA_cans (imgsB l m)
   have hA1 := okAs_mono' hA (by decide : _ ≤ 1000000)
   have hci := zq_ciV hz0 hz1 hz2
   have ok2 := okPs_mono hok (by decide : 1000 ≤ 1000000)
   obtain ⟨A, hAA⟩ : ∃ A, imgsB l m = A := ⟨_, rfl⟩
   rw [hAA] at hK hA hz0 hz1 hz2 hla hwA hA1 hci
   have c1 : al (rcan (pt 0 A).1, rcan (pt 0 A).2) = zq (pt 0 A) := rfl
   have c2 : al (rcan (ciV A).1, rcan (ciV A).2) = zq (ciV A) := rfl
   have c3 : al (rcan (subQ (pt 0 A) (ciV A)).1, rcan (subQ (pt 0 A) (ciV A)).2) = zq (subQ (pt 0 A) (ciV A)) := rfl
   have c4 := zq_sub (pt 0 A) (ciV A)
   have g0 : 0 < A.length := by omega
   have g3 : 3 ≤ A.length := by omega
   rw [hAA] at ims
   simp only [go_sem, ac_threepos_Moving, hk, hv, hi, hx, hn, hs, hq', aC_eq, mk_eta, h0, errV_0]
   refine ⟨hwl, hwm, ok1, om, fun _ => ?_⟩
   refine wpA_loop (fun k : Nat => if k = 0 then ⟨mkV [(3, .one (.ptr 3 1 0 0)), (4, .one (.ptr 4 1 0 0)), (7, .one .emp), (23, psA l), (24, .one (.lit (.int .i64 l.length))), (25, .one (.lit (.int .i64 k)))], mkH [(3, ⟨1, some ⟨[aC m], 6, true⟩⟩), (4, ⟨1, some ⟨[[.lit (.bool false), .emp, .emp, .lit (.bool false), .emp, .emp, .lit (.bool false), .emp, .emp, .lit (.bool false), .emp, .emp, .lit (.bool false), .emp, .emp]], 15, true⟩⟩)]⟩ else ⟨mkV [(3, .one (.ptr 3 1 0 0)), (4, .one (.ptr 4 1 0 0)), (7, .one (.own 41 1 10 0 k)), (23, psA l), (24, .one (.lit (.int .i64 l.length))), (25, .one (.lit (.int .i64 k)))], mkH [(3, ⟨1, some ⟨[aC m], 6, true⟩⟩), (4, ⟨1, some ⟨[[.lit (.bool false), .emp, .emp, .lit (.bool false), .emp, .emp, .lit (.bool false), .emp, .emp, .lit (.bool false), .emp, .emp, .lit (.bool false), .emp, .emp]], 15, true⟩⟩), (41, ⟨1, some ⟨((bkQ (l.take k)).map pcan).map pC, 10, true⟩⟩)]⟩) (fun k => k ≤ l.length) (fun k => l.length - k) 0 ?_ ?_ ?_
   ·exact weak_lit (by simp [okS, okV, okC, okL, okH, okB, okE, mkV_cons, mkV_nil, mkH_cons, mkH_nil, wsA, ws, psA, psC]) ⟨okB_a (l' := [m]) rfl, okB_c (by simp [go_sem]), trivial⟩
   ·exact Nat.zero_le _
   ·intro k hkk
    by_cases hlt : k < l.length
    ·obtain ⟨p, hp⟩ : ∃ p, l.getD k p0 = p := ⟨_, rfl⟩
     have hp0 := getD_get hlt hp
     obtain ⟨hp1, hp2⟩ := hok p (List.mem_of_getElem? hp0)
     have hpv : pvld p = true := List.all_eq_true.1 hvl p (List.mem_of_getElem? hp0)
     have hbt := bk_take hp0
     have hbl := bk_len (l.take k)
     rw [List.length_take, Nat.min_eq_left hkk] at hbl
     have e9 : errV tE (if pvld p = true then 0 else 2) = .one (.lit .nilIface) := by rw [hpv, if_pos rfl]; exact errV_0 tE
     have e7 : (if pvld p = true then invQ (pv p) else ((0, false), (0, 0))) = invQ (pv p) := if_pos hpv
     by_cases hk0 : k = 0
     ·subst hk0
      rw [List.take_zero] at hbt
      simp only [go_sem, hlt, hp, hv, pC_eq, aC_eq, mk_eta, e9, e7]
      refine ⟨hp1, by omega, fun e he => by rw [List.mem_singleton.1 he]; rfl, by omega, 1, ?_, by omega, by omega⟩
      rw [if_neg (by decide)]
      exact weak_lit (by simp [okS, okV, okC, okL, okH, okB, okE, mkV_cons, mkV_nil, mkH_cons, mkH_nil, wsA, ws, psA, psC]) ⟨okB_a (l' := [m]) rfl, okB_c (by simp [go_sem]), okB_ps (by rw [hbt]; rfl), trivial⟩
     ·have ht : ((bkQ (l.take k)).map pcan).take k = (bkQ (l.take k)).map pcan := List.take_of_length_le (by rw [List.length_map, hbl]; exact Nat.le_refl _)
      simp only [go_sem, hlt, hp, hv, pC_eq, aC_eq, hk0, mk_eta, List.length_map, hbl, take_pC, ht, e9, e7]
      refine ⟨hp1, by omega, fun e he => by rw [List.mem_singleton.1 he]; rfl, by omega, by omega, k + 1, ?_, by omega, by omega⟩
      rw [if_neg (by omega)]
      exact weak_lit (by simp [okS, okV, okC, okL, okH, okB, okE, mkV_cons, mkV_nil, mkH_cons, mkH_nil, wsA, ws, psA, psC]) ⟨okB_a (l' := [m]) rfl, okB_c (by simp [go_sem]), okB_ps (by rw [hbt, List.map_append, List.map_append]; rfl), trivial⟩
    ·have hk0 : ¬ k = 0 := by omega
     have hkl : k = l.length := by omega
     subst hkl
     have ht : ((bkQ l).map pcan).take l.length = (bkQ l).map pcan := List.take_of_length_le (by rw [List.length_map, bk_len]; exact Nat.le_refl _)
     have hlt' : ¬ l.length < l.length := by omega
     rw [List.take_of_length_le (Nat.le_refl _)]
     have e1 : (if imgC ((bkQ l).map pcan) m = 0 then A else []) = A := if_pos hib
     have blc := bk_len l
     have bl' : l.length ≤ 100000 := by omega
     by_cases hcr : crV A = 0
     ·rw [if_pos hcr, if_neg (by decide), errV_s tE (by decide), dqA_eq] at hK
      unfold d0 at hK
      rw [rcan_zero] at hK
      simp only [go_sem, hlt', hk0, hi, hx, hn, hs, hq', aC_eq, mk_eta, crL_can, ciL_can, List.length_map, take_pC, ht, blc, ims, hib, e1, errV_0, hcr, errV_s tE (by decide : 8 ≠ 0)]
      repeat (first | (refine And.intro (by omega) ?_) | (refine And.intro (by assumption) ?_) | (refine And.intro rfl ?_) | (refine And.intro ⟨rfl, by omega⟩ ?_) | (refine And.intro ⟨rfl, by omega, by omega⟩ ?_) | (intro _))
      exact hK
     ·rw [if_neg hcr, if_pos rfl, errV_0] at hK
      simp only [go_sem, hlt', hk0, hi, hx, hn, hs, hq', aC_eq, mk_eta, crL_can, ciL_can, List.length_map, take_pC, ht, blc, ims, hib, e1, errV_0, hcr, g0, getD_can, acan_mk, av_mk, rv_rcan, c1, c2, c3]
      repeat (first | (refine And.intro (by omega) ?_) | (refine And.intro (by assumption) ?_) | (refine And.intro rfl ?_) | (refine And.intro ⟨rfl, by omega⟩ ?_) | (refine And.intro ⟨rfl, by omega, by omega⟩ ?_) | (intro _))
      exact hK
  ·have ec : movC l m = chkC l [m] := by unfold movC; rw [if_pos h0]
   rw [ec, if_neg h0, errV_s tE h0, dqA_eq] at hK
   unfold d0 at hK
   rw [rcan_zero] at hK
   simp only [go_sem, ac_threepos_Moving, hk, aC_eq, mk_eta, errV_s tE h0]
   repeat (first | (refine And.intro (by omega) ?_) | (refine And.intro (by assumption) ?_) | (refine And.intro rfl ?_) | (refine And.intro ⟨rfl, by omega⟩ ?_) | (refine And.intro ⟨rfl, by omega, by omega⟩ ?_) | (intro _))
   exact hK
end Go.Abs
end
section
set_option linter.unusedVariables false
set_option linter.unusedSimpArgs false
set_option maxRecDepth 100000
namespace Go.Num
open Go.Abs
theorem can_av {m : Arc} (hw : WLA m) (h : avld m = true) : (rcan (av m).1, rcan (av m).2) = m := by
 unfold avld at h
 rw [Bool.and_eq_true] at h
 exact Prod.ext (rcan_of_vld hw.1 h.1) (rcan_of_vld hw.2 h.2)
theorem cen_0 {l : List Ps} {m : Arc} (h : chkC l [m] = 0) : cenC l m = if crV (imgs l m) = 0 then 8 else 0 := by unfold cenC; rw [if_neg (by omega)]
theorem mov_0 {l : List Ps} {m : Arc} (h : chkC l [m] = 0) : movC l m = if crV (imgsB l m) = 0 then 8 else 0 := by unfold movC; rw [if_neg (by omega)]
end Go.Num
namespace Go.Abs
open Go.Num
variable {P : Program} {Γ : Nat → Spec}
theorem int_8 : ((8 : Nat) : Int) = 8 := rfl
theorem int_0 : ((0 : Nat) : Int) = 0 := rfl
def lDyads_G (l : List AV) (K : AV → Prop) : Prop :=
 match l with
 | [a, b] => onPs (fun l => onA (fun m => okPs 1048576 l ∧ al m ≤ 1048576 ∧ K (.one (.lit (.bool true)))) b) a
 | _ => False
theorem lDyads_Ge (a b : AV) (K : AV → Prop) : lDyads_G [a, b] K = (onPs (fun l => onA (fun m => okPs 1048576 l ∧ al m ≤ 1048576 ∧ K (.one (.lit (.bool true)))) b) a) := propext Iff.rfl
@[congr] theorem lDyads_Gc {K : AV → Prop} {l l' : List AV} (h : l = l') : lDyads_G l K = lDyads_G l' K := by subst h; rfl
attribute [go_sem] lDyads_Ge
attribute [go_sem ↓] lDyads_Ge
end Go.Abs
end
section
set_option linter.unusedVariables false
namespace Go.Num
open Go.Abs
theorem cs_one (t : TnQ) : cosQ t * cosQ t + sinQ t * sinQ t = 1 := by
 unfold cosQ sinQ
 by_cases h : t.2 = true
 ·rw [if_pos h, if_pos h]; grind
 ·rw [if_neg h, if_neg h]
  have hd := den_pos t.1
  obtain ⟨x, hx⟩ : ∃ x, t.1 = x := ⟨_, rfl⟩
  rw [hx] at hd ⊢
  obtain ⟨d, hdd⟩ : ∃ d, 1 + x * x = d := ⟨_, rfl⟩
  rw [hdd] at hd ⊢
  have e : (1 - x * x) * (1 - x * x) + (x + x) * (x + x) = d * d := by grind
  simp only [Rat.div_def]
  have hi : d * d⁻¹ = 1 := Rat.mul_inv_cancel d hd
  obtain ⟨i, hii⟩ : ∃ i, d⁻¹ = i := ⟨_, rfl⟩
  rw [hii] at hi ⊢
  grind
theorem cos_back (t : TnQ) : cosQ (backQ t) = cosQ t := by
 have e : ∀ x : Rat, -x * -x = x * x := fun x => by grind
 unfold cosQ backQ; simp only [e]
theorem sin_back (t : TnQ) : sinQ (backQ t) = -sinQ t := by
 unfold sinQ backQ
 simp only
 split
 ·grind
 ·have e : -t.1 * -t.1 = t.1 * t.1 := by grind
  rw [e, Rat.div_def, Rat.div_def]
  grind
theorem dist_inv (p : PsQ) (m c : V2) : sqQ (subQ (appQ (invQ p) c) m) = sqQ (subQ (appQ p m) c) := by
 have h := cs_one p.1
 unfold appQ invQ rotQ addQ subQ negQ sqQ
 simp only [cos_back, sin_back]
 obtain ⟨C, hC⟩ : ∃ C, cosQ p.1 = C := ⟨_, rfl⟩
 obtain ⟨S, hS⟩ : ∃ S, sinQ p.1 = S := ⟨_, rfl⟩
 rw [hC, hS] at h
 rw [hC, hS]
 obtain ⟨a, b⟩ := p.2
 obtain ⟨c1, c2⟩ := c
 obtain ⟨m1, m2⟩ := m
 simp only
 grind
theorem div_of {a b d : Rat} (hd : d ≠ 0) (h : a = b * d) : a / d = b := by
 rw [h, Rat.div_def, Rat.mul_assoc, Rat.mul_inv_cancel d hd, Rat.mul_one]
theorem ctr_of {x y z c : V2} (h : crossQ (subQ y x) (subQ z x) ≠ 0) (h1 : sqQ (subQ x c) = sqQ (subQ y c)) (h2 : sqQ (subQ x c) = sqQ (subQ z c)) : ctrQ x (subQ y x) (subQ z x) = c := by
 have hd : 2 * crossQ (subQ y x) (subQ z x) ≠ 0 := by intro e; exact h (by grind)
 obtain ⟨x1, x2⟩ := x
 obtain ⟨y1, y2⟩ := y
 obtain ⟨z1, z2⟩ := z
 obtain ⟨c1, c2⟩ := c
 unfold ctrQ
 refine Prod.ext ?_ ?_
 ·show x1 + _ = c1
  rw [div_of (b := c1 - x1) hd]
  ·grind
  ·unfold sqQ crossQ subQ at *
   simp only at *
   grind
 ·show x2 + _ = c2
  rw [div_of (b := c2 - x2) hd]
  ·grind
  ·unfold sqQ crossQ subQ at *
   simp only at *
   grind
theorem ctr_eq {x y z : V2} (h : crossQ (subQ y x) (subQ z x) ≠ 0) : sqQ (subQ y (ctrQ x (subQ y x) (subQ z x))) = sqQ (subQ x (ctrQ x (subQ y x) (subQ z x))) ∧ sqQ (subQ z (ctrQ x (subQ y x) (subQ z x))) = sqQ (subQ x (ctrQ x (subQ y x) (subQ z x))) := by
 have hd : 2 * crossQ (subQ y x) (subQ z x) ≠ 0 := by intro e; exact h (by grind)
 obtain ⟨u, hu⟩ : ∃ u, subQ y x = u := ⟨_, rfl⟩
 obtain ⟨v, hv⟩ : ∃ v, subQ z x = v := ⟨_, rfl⟩
 have ey : y = addQ x u := by rw [← hu]; unfold addQ subQ; exact Prod.ext (by grind) (by grind)
 have ez : z = addQ x v := by rw [← hv]; unfold addQ subQ; exact Prod.ext (by grind) (by grind)
 rw [hu, hv] at hd ⊢
 rw [ey, ez]
 obtain ⟨a, ha⟩ : ∃ a, (sqQ u * v.2 - sqQ v * u.2) / (2 * crossQ u v) = a := ⟨_, rfl⟩
 obtain ⟨b, hb⟩ : ∃ b, (sqQ v * u.1 - sqQ u * v.1) / (2 * crossQ u v) = b := ⟨_, rfl⟩
 have ea : sqQ u * v.2 - sqQ v * u.2 = a * (2 * crossQ u v) := by
  rw [← ha, Rat.div_def, Rat.mul_assoc, Rat.inv_mul_cancel _ hd, Rat.mul_one]
 have eb : sqQ v * u.1 - sqQ u * v.1 = b * (2 * crossQ u v) := by
  rw [← hb, Rat.div_def, Rat.mul_assoc, Rat.inv_mul_cancel _ hd, Rat.mul_one]
 have ec : ctrQ x u v = (x.1 + a, x.2 + b) := by unfold ctrQ; rw [ha, hb]
 rw [ec]
 obtain ⟨u1, u2⟩ := u
 obtain ⟨v1, v2⟩ := v
 obtain ⟨x1, x2⟩ := x
 unfold addQ subQ sqQ crossQ at *
 simp only at *
 have hne : 2 * (u1 * v2 - u2 * v1) ≠ 0 := hd
 have k1 : (2 * (u1 * v2 - u2 * v1)) * (2 * (a * u1 + b * u2) - (u1 * u1 + u2 * u2)) = 0 := by grind
 have k2 : (2 * (u1 * v2 - u2 * v1)) * (2 * (a * v1 + b * v2) - (v1 * v1 + v2 * v2)) = 0 := by grind
 have j1 : 2 * (a * u1 + b * u2) - (u1 * u1 + u2 * u2) = 0 := (Rat.mul_eq_zero.1 k1).resolve_left hne
 have j2 : 2 * (a * v1 + b * v2) - (v1 * v1 + v2 * v2) = 0 := (Rat.mul_eq_zero.1 k2).resolve_left hne
 constructor <;> grind
end Go.Num
end
section
set_option linter.unusedVariables false
set_option linter.unusedSimpArgs false
set_option maxRecDepth 100000
namespace Go.Num
open Go.Abs
abbrev P3 := Ps × Ps × Ps
def WL3 (t : P3) : Prop := WLP t.1 ∧ WLP t.2.1 ∧ WLP t.2.2
def l3 (t : P3) : List Ps := [t.1, t.2.1, t.2.2]
theorem l3_mem {t : P3} {p : Ps} : p ∈ l3 t ↔ p = t.1 ∨ p = t.2.1 ∨ p = t.2.2 := by simp [l3]
theorem l3_wl {t : P3} (h : WL3 t) : ∀ p ∈ l3 t, WLP p := fun p hp => by
 rcases l3_mem.1 hp with rfl | rfl | rfl
 ·exact h.1
 ·exact h.2.1
 ·exact h.2.2
theorem avld_can (a : V2) : avld (acan a) = true := by
 show (vldR (rcan _) && vldR (rcan _)) = true
 rw [vld_rcan, vld_rcan]; rfl
end Go.Num
namespace Go.Abs
open Go.Num
variable {P : Program} {Γ : Nat → Spec}
def p3C (t : P3) : List C := pC t.1 ++ pC t.2.1 ++ pC t.2.2
def p3A (t : P3) : AV := .agg (p3C t)
theorem p3A_inj (x y : P3) (h : p3A x = p3A y) : x = y := by
 simp only [p3A, p3C, AV.agg.injEq] at h
 have h1 := List.append_inj h (by simp [len_pC])
 have h2 := List.append_inj h1.1 (by simp [len_pC])
 exact Prod.ext (pC_inj h2.1) (Prod.ext (pC_inj h2.2) (pC_inj h1.2))
def onP3 (k : P3 → Prop) (a : AV) : Prop := onE p3A (fun t => WL3 t ∧ k t) a
@[congr] theorem onP3_cg {k : P3 → Prop} {a a' : AV} (h : a = a') : onP3 k a = onP3 k a' := by subst h; rfl
theorem g_onP3 {β : Type} {T : P3 → (β → Prop) → Prop} (h : ∀ x, GoodT (T x)) {a : AV} : GoodT fun K => onP3 (fun x => T x K) a :=
 g_onE (e := p3A) (T := fun p K => WL3 p ∧ T p K) p3A_inj fun p => GoodT.and (c := WL3 p) (T := T p) fun _ => h p
theorem clean_p3 (t : P3) : CleanL (p3C t) := by
 intro c hc
 simp only [p3C, List.mem_append] at hc
 rcases hc with (hc | hc) | hc
 ·exact clean_pC _ c hc
 ·exact clean_pC _ c hc
 ·exact clean_pC _ c hc
theorem len_p3 (t : P3) : (p3C t).length = 30 := by simp [p3C, len_pC]
theorem drop0_p3 (t : P3) : (p3C t).drop 0 = p3C t := rfl
theorem take_p3 (t : P3) : (p3C t).take 30 = p3C t := List.take_of_length_le (by rw [len_p3]; decide)
theorem t1_p3 (t : P3) : (p3C t).take 10 = pC t.1 := by unfold p3C; rw [List.append_assoc, List.take_left' (len_pC _)]
theorem d1_p3 (t : P3) : (p3C t).drop 10 = pC t.2.1 ++ pC t.2.2 := by unfold p3C; rw [List.append_assoc, List.drop_left' (len_pC _)]
theorem t2_p3 (t : P3) : ((p3C t).drop 10).take 10 = pC t.2.1 := by rw [d1_p3, List.take_left' (len_pC _)]
theorem t3_p3 (t : P3) : (((p3C t).drop 10).drop 10).take 10 = pC t.2.2 := by rw [d1_p3, List.drop_left' (len_pC _), List.take_of_length_le (by rw [len_pC]; decide)]
theorem p3_at (t : P3) (k : Nat) (h : k < 3) : ((p3C t).drop (k * 10)).take 10 = pC ((l3 t).getD k p0) := by
 have h2 : (p3C t).drop 10 = pC t.2.1 ++ pC t.2.2 := by unfold p3C; rw [List.append_assoc, List.drop_left' (len_pC _)]
 match k, h with
 | 0, _ => show (p3C t).take 10 = _; unfold p3C; rw [List.append_assoc, List.take_left' (len_pC _)]; rfl
 | 1, _ => show ((p3C t).drop 10).take 10 = _; rw [h2, List.take_left' (len_pC _)]; rfl
 | 2, _ =>
  show ((p3C t).drop 20).take 10 = _
  have e : (p3C t).drop 20 = ((p3C t).drop 10).drop 10 := by rw [List.drop_drop]
  rw [e, h2, List.drop_left' (len_pC _), List.take_of_length_le (by rw [len_pC]; decide)]; rfl
theorem dat_p3 (t : P3) (r : List (List C)) : datQ 0 0 (some ⟨p3C t :: r, 30, true⟩) = .ref (p3C t) := datQ_some [] _ _ _ _ _ ⟨Nat.zero_le _, clean_p3 t⟩
theorem onPs_3 (k : List Ps → Prop) (p q r : Ps) : onPs k (.one (.slice [pC p, pC q, pC r])) = ((∀ x ∈ l3 (p, q, r), WLP x) ∧ k (l3 (p, q, r))) := onPs_e k (l3 (p, q, r))
theorem p3A_eq (t : P3) : p3A t = .agg (p3C t) := eq_of_heq (HEq.refl _)
attribute [go_sem] onPs_3 len_p3 drop0_p3 take_p3 t1_p3 t2_p3 t3_p3 dat_p3 p3A_eq
attribute [go_sem ↓] onPs_3 len_p3 drop0_p3 take_p3 t1_p3 t2_p3 t3_p3 dat_p3 p3A_eq
def lBack_G (l : List AV) (K : AV → Prop) : Prop :=
 match l with
 | [a, b] => onP3 (fun t => onA (fun m => okPs 1048576 (l3 t) ∧ al m ≤ 1048576 ∧ K (.one (.lit (.bool true)))) b) a
 | _ => False
theorem lBack_Ge (a b : AV) (K : AV → Prop) : lBack_G [a, b] K = (onP3 (fun t => onA (fun m => okPs 1048576 (l3 t) ∧ al m ≤ 1048576 ∧ K (.one (.lit (.bool true)))) b) a) := propext Iff.rfl
@[congr] theorem lBack_Gc {K : AV → Prop} {l l' : List AV} (h : l = l') : lBack_G l K = lBack_G l' K := by subst h; rfl
attribute [go_sem] lBack_Ge
attribute [go_sem ↓] lBack_Ge
end Go.Abs
end
