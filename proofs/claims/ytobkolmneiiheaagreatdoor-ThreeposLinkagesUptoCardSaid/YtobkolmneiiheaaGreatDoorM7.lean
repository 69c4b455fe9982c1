/-
  Parts of the proof, merged: PoseB, PoseC, ChartE, ChartF, ChartG, ChartQ, ChartH, ChartR, ChartW, ChartX, ComA, ChartRow.
-/
import Derived.Test.YtobkolmneiiheaaGreatDoorM6
set_option linter.unusedVariables false
set_option linter.unusedSimpArgs false
section
set_option linter.unusedVariables false
set_option linter.unusedSimpArgs false
set_option maxRecDepth 100000
namespace Go.Abs
open Go.Num
variable {P : Program} {Γ : Nat → Spec}
def pQ (x : V2) : AV := .agg [cb (rcan x.1), cn (rcan x.1), cd (rcan x.1), cb (rcan x.2), cn (rcan x.2), cd (rcan x.2)]
theorem pQ_eq (x : V2) : pQ x = .agg [cb (rcan x.1), cn (rcan x.1), cd (rcan x.1), cb (rcan x.2), cn (rcan x.2), cd (rcan x.2)] := eq_of_heq (HEq.refl _)
def tQ (t : TnQ) : AV := .agg [cb (rcan t.1), cn (rcan t.1), cd (rcan t.1), .lit (.bool t.2)]
theorem tQ_eq (t : TnQ) : tQ t = .agg [cb (rcan t.1), cn (rcan t.1), cd (rcan t.1), .lit (.bool t.2)] := eq_of_heq (HEq.refl _)
theorem av_mk (x y : R) : av (x, y) = (rv x, rv y) := rfl
theorem al_can (a b : Rat) : al (rcan a, rcan b) = max (rz a) (rz b) := rfl
theorem WLA_mk (a b : Rat) : WLA (rcan a, rcan b) = True := eq_true ⟨WLR_rcan _, WLR_rcan _⟩
attribute [go_sem] pQ_eq tQ_eq WLA_mk
attribute [go_sem ↓] pQ_eq tQ_eq WLA_mk
def pvalid_G (l : List AV) (K : AV → Prop) : Prop :=
 match l with
 | [a] => onA (fun p => al p ≤ 100000000 ∧ K (.one (.lit (.bool (avld p))))) a
 | _ => False
theorem pvalid_Ge (a : AV) (K : AV → Prop) : pvalid_G [a] K = (onA (fun p => al p ≤ 100000000 ∧ K (.one (.lit (.bool (avld p))))) a) := propext Iff.rfl
@[congr] theorem pvalid_Gc {K : AV → Prop} {l l' : List AV} (h : l = l') : pvalid_G l K = pvalid_G l' K := by subst h; rfl
attribute [go_sem] pvalid_Ge
attribute [go_sem ↓] pvalid_Ge
theorem pvalid_good : Good pvalid_G := good_of fun as => by
 unfold pvalid_G
 split
 ·exact (g_onA fun _ => (.and fun _ => (.ret _)))
 ·exact .of fun K hk => hk.elim
def pless_G (l : List AV) (K : AV → Prop) : Prop :=
 match l with
 | [a, b] => onA (fun p => onA (fun q => al p ≤ 100000000 ∧ al q ≤ 100000000 ∧ K (pQ (subQ (av p) (av q)))) b) a
 | _ => False
theorem pless_Ge (a b : AV) (K : AV → Prop) : pless_G [a, b] K = (onA (fun p => onA (fun q => al p ≤ 100000000 ∧ al q ≤ 100000000 ∧ K (pQ (subQ (av p) (av q)))) b) a) := propext Iff.rfl
@[congr] theorem pless_Gc {K : AV → Prop} {l l' : List AV} (h : l = l') : pless_G l K = pless_G l' K := by subst h; rfl
attribute [go_sem] pless_Ge
attribute [go_sem ↓] pless_Ge
theorem pless_good : Good pless_G := good_of fun as => by
 unfold pless_G
 split
 ·exact (g_onA fun _ => (g_onA fun _ => (.and fun _ => (.and fun _ => (.ret _)))))
 ·exact .of fun K hk => hk.elim
def pplus_G (l : List AV) (K : AV → Prop) : Prop :=
 match l with
 | [a, b] => onA (fun p => onA (fun q => al p ≤ 100000000 ∧ al q ≤ 100000000 ∧ K (pQ (addQ (av p) (av q)))) b) a
 | _ => False
theorem pplus_Ge (a b : AV) (K : AV → Prop) : pplus_G [a, b] K = (onA (fun p => onA (fun q => al p ≤ 100000000 ∧ al q ≤ 100000000 ∧ K (pQ (addQ (av p) (av q)))) b) a) := propext Iff.rfl
@[congr] theorem pplus_Gc {K : AV → Prop} {l l' : List AV} (h : l = l') : pplus_G l K = pplus_G l' K := by subst h; rfl
attribute [go_sem] pplus_Ge
attribute [go_sem ↓] pplus_Ge
theorem pplus_good : Good pplus_G := good_of fun as => by
 unfold pplus_G
 split
 ·exact (g_onA fun _ => (g_onA fun _ => (.and fun _ => (.and fun _ => (.ret _)))))
 ·exact .of fun K hk => hk.elim
def pcross_G (l : List AV) (K : AV → Prop) : Prop :=
 match l with
 | [a, b] => onA (fun p => onA (fun q => al p ≤ 100000000 ∧ al q ≤ 100000000 ∧ K (rQ (crossQ (av p) (av q)))) b) a
 | _ => False
theorem pcross_Ge (a b : AV) (K : AV → Prop) : pcross_G [a, b] K = (onA (fun p => onA (fun q => al p ≤ 100000000 ∧ al q ≤ 100000000 ∧ K (rQ (crossQ (av p) (av q)))) b) a) := propext Iff.rfl
@[congr] theorem pcross_Gc {K : AV → Prop} {l l' : List AV} (h : l = l') : pcross_G l K = pcross_G l' K := by subst h; rfl
attribute [go_sem] pcross_Ge
attribute [go_sem ↓] pcross_Ge
theorem pcross_good : Good pcross_G := good_of fun as => by
 unfold pcross_G
 split
 ·exact (g_onA fun _ => (g_onA fun _ => (.and fun _ => (.and fun _ => (.ret _)))))
 ·exact .of fun K hk => hk.elim
def psq_G (l : List AV) (K : AV → Prop) : Prop :=
 match l with
 | [a] => onA (fun p => al p ≤ 100000000 ∧ K (rQ (sqQ (av p)))) a
 | _ => False
theorem psq_Ge (a : AV) (K : AV → Prop) : psq_G [a] K = (onA (fun p => al p ≤ 100000000 ∧ K (rQ (sqQ (av p)))) a) := propext Iff.rfl
@[congr] theorem psq_Gc {K : AV → Prop} {l l' : List AV} (h : l = l') : psq_G l K = psq_G l' K := by subst h; rfl
attribute [go_sem] psq_Ge
attribute [go_sem ↓] psq_Ge
theorem psq_good : Good psq_G := good_of fun as => by
 unfold psq_G
 split
 ·exact (g_onA fun _ => (.and fun _ => (.ret _)))
 ·exact .of fun K hk => hk.elim
def psame_G (l : List AV) (K : AV → Prop) : Prop :=
 match l with
 | [a, b] => onA (fun p => onA (fun q => al p ≤ 100000000 ∧ al q ≤ 100000000 ∧ K (.one (.lit (.bool (decide (av p = av q)))))) b) a
 | _ => False
theorem psame_Ge (a b : AV) (K : AV → Prop) : psame_G [a, b] K = (onA (fun p => onA (fun q => al p ≤ 100000000 ∧ al q ≤ 100000000 ∧ K (.one (.lit (.bool (decide (av p = av q)))))) b) a) := propext Iff.rfl
@[congr] theorem psame_Gc {K : AV → Prop} {l l' : List AV} (h : l = l') : psame_G l K = psame_G l' K := by subst h; rfl
attribute [go_sem] psame_Ge
attribute [go_sem ↓] psame_Ge
theorem psame_good : Good psame_G := good_of fun as => by
 unfold psame_G
 split
 ·exact (g_onA fun _ => (g_onA fun _ => (.and fun _ => (.and fun _ => (.ret _)))))
 ·exact .of fun K hk => hk.elim
def pneg_G (l : List AV) (K : AV → Prop) : Prop :=
 match l with
 | [a] => onA (fun p => al p ≤ 100000000 ∧ K (pQ (negQ (av p)))) a
 | _ => False
theorem pneg_Ge (a : AV) (K : AV → Prop) : pneg_G [a] K = (onA (fun p => al p ≤ 100000000 ∧ K (pQ (negQ (av p)))) a) := propext Iff.rfl
@[congr] theorem pneg_Gc {K : AV → Prop} {l l' : List AV} (h : l = l') : pneg_G l K = pneg_G l' K := by subst h; rfl
attribute [go_sem] pneg_Ge
attribute [go_sem ↓] pneg_Ge
def pclone_G (l : List AV) (K : AV → Prop) : Prop :=
 match l with
 | [a] => onA (fun p => al p ≤ 100000000 ∧ K (pQ (av p))) a
 | _ => False
theorem pclone_Ge (a : AV) (K : AV → Prop) : pclone_G [a] K = (onA (fun p => al p ≤ 100000000 ∧ K (pQ (av p))) a) := propext Iff.rfl
@[congr] theorem pclone_Gc {K : AV → Prop} {l l' : List AV} (h : l = l') : pclone_G l K = pclone_G l' K := by subst h; rfl
attribute [go_sem] pclone_Ge
attribute [go_sem ↓] pclone_Ge
theorem pclone_good : Good pclone_G := good_of fun as => by
 unfold pclone_G
 split
 ·exact (g_onA fun _ => (.and fun _ => (.ret _)))
 ·exact .of fun K hk => hk.elim
def rzero_G (l : List AV) (K : AV → Prop) : Prop :=
 match l with
 | [a] => onR (fun x => rl x ≤ 4294967296 ∧ K (.one (.lit (.bool (decide (rv x = 0)))))) a
 | _ => False
theorem rzero_Ge (a : AV) (K : AV → Prop) : rzero_G [a] K = (onR (fun x => rl x ≤ 4294967296 ∧ K (.one (.lit (.bool (decide (rv x = 0)))))) a) := propext Iff.rfl
@[congr] theorem rzero_Gc {K : AV → Prop} {l l' : List AV} (h : l = l') : rzero_G l K = rzero_G l' K := by subst h; rfl
attribute [go_sem] rzero_Ge
attribute [go_sem ↓] rzero_Ge
theorem rzero_good : Good rzero_G := good_of fun as => by
 unfold rzero_G
 split
 ·exact (g_onR fun _ => (.and fun _ => (.ret _)))
 ·exact .of fun K hk => hk.elim
def rover_G (l : List AV) (K : AV → Prop) : Prop :=
 match l with
 | [a, b] => onR (fun x => onR (fun y => rl x ≤ 1073741824 ∧ rl y ≤ 1073741824 ∧ K (rQ (rv x / rv y))) b) a
 | _ => False
theorem rover_Ge (a b : AV) (K : AV → Prop) : rover_G [a, b] K = (onR (fun x => onR (fun y => rl x ≤ 1073741824 ∧ rl y ≤ 1073741824 ∧ K (rQ (rv x / rv y))) b) a) := propext Iff.rfl
@[congr] theorem rover_Gc {K : AV → Prop} {l l' : List AV} (h : l = l') : rover_G l K = rover_G l' K := by subst h; rfl
attribute [go_sem] rover_Ge
attribute [go_sem ↓] rover_Ge
theorem rover_good : Good rover_G := good_of fun as => by
 unfold rover_G
 split
 ·exact (g_onR fun _ => (g_onR fun _ => (.and fun _ => (.and fun _ => (.ret _)))))
 ·exact .of fun K hk => hk.elim
def tcheck_G (tE : Nat) (l : List AV) (K : AV → Prop) : Prop :=
 match l with
 | [a] => onT (fun t => rl t.1 ≤ 100000000 ∧ K (errV tE (tchk t))) a
 | _ => False
theorem tcheck_Ge (tE : Nat) (a : AV) (K : AV → Prop) : tcheck_G tE [a] K = (onT (fun t => rl t.1 ≤ 100000000 ∧ K (errV tE (tchk t))) a) := propext Iff.rfl
@[congr] theorem tcheck_Gc (tE : Nat) {K : AV → Prop} {l l' : List AV} (h : l = l') : tcheck_G tE l K = tcheck_G tE l' K := by subst h; rfl
attribute [go_sem] tcheck_Ge
attribute [go_sem ↓] tcheck_Ge
theorem tcheck_good (tE : Nat) : Good (tcheck_G tE) := good_of fun as => by
 unfold tcheck_G
 split
 ·exact (g_onT fun _ => (.and fun _ => (.ret _)))
 ·exact .of fun K hk => hk.elim
def tvalid_G (l : List AV) (K : AV → Prop) : Prop :=
 match l with
 | [a] => onT (fun t => rl t.1 ≤ 100000000 ∧ K (.one (.lit (.bool (decide (tchk t = 0)))))) a
 | _ => False
theorem tvalid_Ge (a : AV) (K : AV → Prop) : tvalid_G [a] K = (onT (fun t => rl t.1 ≤ 100000000 ∧ K (.one (.lit (.bool (decide (tchk t = 0)))))) a) := propext Iff.rfl
@[congr] theorem tvalid_Gc {K : AV → Prop} {l l' : List AV} (h : l = l') : tvalid_G l K = tvalid_G l' K := by subst h; rfl
attribute [go_sem] tvalid_Ge
attribute [go_sem ↓] tvalid_Ge
theorem tvalid_good : Good tvalid_G := good_of fun as => by
 unfold tvalid_G
 split
 ·exact (g_onT fun _ => (.and fun _ => (.ret _)))
 ·exact .of fun K hk => hk.elim
def pvld_G (l : List AV) (K : AV → Prop) : Prop :=
 match l with
 | [a] => onPo (fun p => pl p ≤ 100000000 ∧ K (.one (.lit (.bool (pvld p))))) a
 | _ => False
theorem pvld_Ge (a : AV) (K : AV → Prop) : pvld_G [a] K = (onPo (fun p => pl p ≤ 100000000 ∧ K (.one (.lit (.bool (pvld p))))) a) := propext Iff.rfl
@[congr] theorem pvld_Gc {K : AV → Prop} {l l' : List AV} (h : l = l') : pvld_G l K = pvld_G l' K := by subst h; rfl
attribute [go_sem] pvld_Ge
attribute [go_sem ↓] pvld_Ge
theorem pvld_good : Good pvld_G := good_of fun as => by
 unfold pvld_G
 split
 ·exact (g_onPo fun _ => (.and fun _ => (.ret _)))
 ·exact .of fun K hk => hk.elim
def tneg_G (l : List AV) (K : AV → Prop) : Prop :=
 match l with
 | [a] => onT (fun t => rl t.1 ≤ 100000000 ∧ K (tQ (backQ (tv t)))) a
 | _ => False
theorem tneg_Ge (a : AV) (K : AV → Prop) : tneg_G [a] K = (onT (fun t => rl t.1 ≤ 100000000 ∧ K (tQ (backQ (tv t)))) a) := propext Iff.rfl
@[congr] theorem tneg_Gc {K : AV → Prop} {l l' : List AV} (h : l = l') : tneg_G l K = tneg_G l' K := by subst h; rfl
attribute [go_sem] tneg_Ge
attribute [go_sem ↓] tneg_Ge
def tdir_G (l : List AV) (K : AV → Prop) : Prop :=
 match l with
 | [a] => onT (fun t => rl t.1 ≤ 10000000 ∧ K (.tup [rQ (cosQ (tv t)), rQ (sinQ (tv t))])) a
 | _ => False
theorem tdir_Ge (a : AV) (K : AV → Prop) : tdir_G [a] K = (onT (fun t => rl t.1 ≤ 10000000 ∧ K (.tup [rQ (cosQ (tv t)), rQ (sinQ (tv t))])) a) := propext Iff.rfl
@[congr] theorem tdir_Gc {K : AV → Prop} {l l' : List AV} (h : l = l') : tdir_G l K = tdir_G l' K := by subst h; rfl
attribute [go_sem] tdir_Ge
attribute [go_sem ↓] tdir_Ge
theorem tdir_good : Good tdir_G := good_of fun as => by
 unfold tdir_G
 split
 ·exact (g_onT fun _ => (.and fun _ => (.ret _)))
 ·exact .of fun K hk => hk.elim
def lsame_G (l : List AV) (K : AV → Prop) : Prop :=
 match l with
 | [a, b] => onA (fun p => onA (fun q => al p ≤ 4294967296 ∧ K (.one (.lit (.bool (decide (p = q)))))) b) a
 | _ => False
theorem lsame_Ge (a b : AV) (K : AV → Prop) : lsame_G [a, b] K = (onA (fun p => onA (fun q => al p ≤ 4294967296 ∧ K (.one (.lit (.bool (decide (p = q)))))) b) a) := propext Iff.rfl
@[congr] theorem lsame_Gc {K : AV → Prop} {l l' : List AV} (h : l = l') : lsame_G l K = lsame_G l' K := by subst h; rfl
attribute [go_sem] lsame_Ge
attribute [go_sem ↓] lsame_Ge
theorem lsame_good : Good lsame_G := good_of fun as => by
 unfold lsame_G
 split
 ·exact (g_onA fun _ => (g_onA fun _ => (.and fun _ => (.ret _))))
 ·exact .of fun K hk => hk.elim
def ac_threepos_valid (f0 : Nat) : AC := (.seq (.ops false [.u 1 (.box 6 (.t 0)), .m 2 .fa])
 (.fg [1] (.seq (.ops false [.u 3 (.fa 0 (.t 1)), .u 4 (.ld none 3 true (.t 3)), .u 5 (.call f0 [(.t 4)]), .m 6 (.t 5), .w 7 6 true (.fa 3 (.t 1)), .w 8 6 true (.ld none 3 true (.t 7)), .w 9 6 true (.call f0 [(.t 8)]), .u 10 (.pick (.t 6) (.t 9) .fa), .m 2 (.t 10)])
 .ret)))
def ac_threepos_sub (f0 : Nat) : AC := (.seq (.ops false [.u 2 (.box 6 (.t 0)), .u 3 (.box 6 (.t 1)), .u 4 (.alloc [(.lit (.bool false)), .emp, .emp, (.lit (.bool false)), .emp, .emp])])
 (.fg [2, 3, 4] (.seq (.ops true [.u 5 (.fa 0 (.t 2)), .u 6 (.ld none 3 true (.t 5)), .u 7 (.fa 0 (.t 3)), .u 8 (.ld none 3 true (.t 7)), .u 9 (.call f0 [(.t 6), (.t 8)]), .u 10 (.fa 3 (.t 2)), .u 11 (.ld none 3 true (.t 10)), .u 12 (.fa 3 (.t 3)), .u 13 (.ld none 3 true (.t 12)), .u 14 (.call f0 [(.t 11), (.t 13)]), .u 15 (.build [.x 3 (.t 9), .x 3 (.t 14)]), .n (.st none 6 (.t 4) (.t 15))])
 .ret)))
def ac_pose_add (f0 : Nat) : AC := (.seq (.ops false [.u 2 (.box 6 (.t 0)), .u 3 (.box 6 (.t 1)), .u 4 (.alloc [(.lit (.bool false)), .emp, .emp, (.lit (.bool false)), .emp, .emp])])
 (.fg [2, 3, 4] (.seq (.ops true [.u 5 (.fa 0 (.t 2)), .u 6 (.ld none 3 true (.t 5)), .u 7 (.fa 0 (.t 3)), .u 8 (.ld none 3 true (.t 7)), .u 9 (.call f0 [(.t 6), (.t 8)]), .u 10 (.fa 3 (.t 2)), .u 11 (.ld none 3 true (.t 10)), .u 12 (.fa 3 (.t 3)), .u 13 (.ld none 3 true (.t 12)), .u 14 (.call f0 [(.t 11), (.t 13)]), .u 15 (.build [.x 3 (.t 9), .x 3 (.t 14)]), .n (.st none 6 (.t 4) (.t 15))])
 .ret)))
def ac_threepos_cross (f0 f1 : Nat) : AC := (.seq (.ops false [.u 2 (.box 6 (.t 0)), .u 3 (.box 6 (.t 1)), .u 4 (.alloc [(.lit (.bool false)), .emp, .emp])])
 (.fg [2, 3, 4] (.seq (.ops true [.u 5 (.fa 0 (.t 2)), .u 6 (.ld none 3 true (.t 5)), .u 7 (.fa 3 (.t 3)), .u 8 (.ld none 3 true (.t 7)), .u 9 (.call f0 [(.t 6), (.t 8)]), .u 10 (.fa 3 (.t 2)), .u 11 (.ld none 3 true (.t 10)), .u 12 (.fa 0 (.t 3)), .u 13 (.ld none 3 true (.t 12)), .u 14 (.call f0 [(.t 11), (.t 13)]), .u 15 (.call f1 [(.t 9), (.t 14)]), .n (.st none 3 (.t 4) (.t 15))])
 .ret)))
def ac_threepos_square (f0 f1 : Nat) : AC := (.seq (.ops false [.u 1 (.box 6 (.t 0)), .u 2 (.alloc [(.lit (.bool false)), .emp, .emp])])
 (.fg [1, 2] (.seq (.ops true [.u 3 (.fa 0 (.t 1)), .u 4 (.ld none 3 true (.t 3)), .u 5 (.fa 0 (.t 1)), .u 6 (.ld none 3 true (.t 5)), .u 7 (.call f0 [(.t 4), (.t 6)]), .u 8 (.fa 3 (.t 1)), .u 9 (.ld none 3 true (.t 8)), .u 10 (.fa 3 (.t 1)), .u 11 (.ld none 3 true (.t 10)), .u 12 (.call f0 [(.t 9), (.t 11)]), .u 13 (.call f1 [(.t 7), (.t 12)]), .n (.st none 3 (.t 2) (.t 13))])
 .ret)))
def ac_threepos_same (f0 : Nat) : AC := (.seq (.ops false [.u 2 (.box 6 (.t 0)), .u 3 (.box 6 (.t 1)), .m 4 .fa])
 (.fg [2, 3] (.seq (.ops false [.u 5 (.fa 0 (.t 2)), .u 6 (.ld none 3 true (.t 5)), .u 7 (.fa 0 (.t 3)), .u 8 (.ld none 3 true (.t 7)), .u 9 (.call f0 [(.t 6), (.t 8)]), .u 10 (.bin .eql (.t 9) (.i 0)), .m 11 (.t 10), .w 12 11 true (.fa 3 (.t 2)), .w 13 11 true (.ld none 3 true (.t 12)), .w 14 11 true (.fa 3 (.t 3)), .w 15 11 true (.ld none 3 true (.t 14)), .w 16 11 true (.call f0 [(.t 13), (.t 15)]), .w 17 11 true (.bin .eql (.t 16) (.i 0)), .u 18 (.pick (.t 11) (.t 17) .fa), .m 4 (.t 18)])
 .ret)))
def ac_threepos_clone (f0 : Nat) : AC := (.seq (.ops false [.u 1 (.box 6 (.t 0)), .u 2 (.alloc [(.lit (.bool false)), .emp, .emp, (.lit (.bool false)), .emp, .emp])])
 (.fg [1, 2] (.seq (.ops false [.u 3 (.ld none 6 true (.t 1)), .u 4 (.build [.z [(.lit (.bool false)), .emp, .emp, (.lit (.bool false)), .emp, .emp]]), .u 5 (.call f0 [(.t 3), (.t 4)]), .n (.st none 6 (.t 2) (.t 5))])
 .ret)))
def ac_linkworkref17_Zero (f0 : Nat) : AC := (.seq (.ops false [.u 1 (.box 3 (.t 0)), .m 2 .fa])
 (.fg [1] (.seq (.ops false [.u 3 (.ld none 3 true (.t 1)), .u 4 (.call f0 [(.t 3)]), .u 5 (.bin .eql (.t 4) (.i 0)), .m 2 (.t 5)])
 .ret)))
def ac_turn_over (f0 : Nat) : AC := (.seq (.ops false [.u 2 (.box 3 (.t 0)), .u 3 (.box 3 (.t 1)), .u 4 (.alloc [(.lit (.bool false)), .emp, .emp])])
 (.fg [2, 3, 4] (.seq (.ops false [.u 8 (.ld none 3 true (.t 2)), .u 9 (.ld none 3 true (.t 3)), .u 10 (.call f0 [(.t 8), (.t 9)]), .m 7 (.t 10), .u 11 (.ext 0 (.t 7)), .u 12 (.ext 1 (.t 7)), .u 5 (.alloc [(.lit (.bool false)), .emp, .emp]), .n (.st none 3 (.t 5) (.t 11)), .m 6 (.t 12)])
 (.fg [4, 5, 6] (.seq (.seq (.ops false [.m 13 (.t 6), .u 14 (.binn .neq (.t 13) (.c (.one (.lit .nilIface))))])
 (.fg [4, 5, 14] (.cond (.t 14) (.seq (.ops false [.u 15 (.build [.z [(.lit (.bool false)), .emp, .emp]]), .n (.st none 3 (.t 4) (.t 15))])
 .ret) .skip)))
 (.fg [4, 5] (.seq (.ops false [.u 16 (.ld none 3 true (.t 5)), .n (.st none 3 (.t 4) (.t 16))])
 .ret)))))))
def ac_linkworkref17_over (f0 : Nat) : AC := (.seq (.ops false [.u 2 (.box 3 (.t 0)), .u 3 (.box 3 (.t 1)), .u 4 (.alloc [(.lit (.bool false)), .emp, .emp])])
 (.fg [2, 3, 4] (.seq (.ops false [.u 8 (.ld none 3 true (.t 2)), .u 9 (.ld none 3 true (.t 3)), .u 10 (.call f0 [(.t 8), (.t 9)]), .m 7 (.t 10), .u 11 (.ext 0 (.t 7)), .u 12 (.ext 1 (.t 7)), .u 5 (.alloc [(.lit (.bool false)), .emp, .emp]), .n (.st none 3 (.t 5) (.t 11)), .m 6 (.t 12)])
 (.fg [4, 5] (.seq (.ops false [.u 13 (.ld none 3 true (.t 5)), .n (.st none 3 (.t 4) (.t 13))])
 .ret)))))
def ac_turn_Check (f0 f1 tE : Nat) : AC := (.seq (.ops false [.u 1 (.box 4 (.t 0)), .m 2 (.c (.one (.lit .nilIface)))])
 (.fg [1] (.seq (.seq (.ops false [.u 3 (.fa 0 (.t 1)), .u 4 (.ld none 3 true (.t 3)), .u 5 (.call f0 [(.t 4)]), .u 6 (.un .not (.t 5)), .m 7 (.t 6), .w 8 7 false (.fa 3 (.t 1)), .w 9 7 false (.ld none 1 false (.t 8)), .w 10 7 false (.mv (.t 9)), .w 11 10 true (.fa 0 (.t 1)), .w 12 10 true (.ld none 3 true (.t 11)), .w 13 10 true (.call f1 [(.t 12)]), .w 14 10 true (.bin .neq (.t 13) (.i 0)), .w 15 7 false (.pick (.t 10) (.t 14) .fa), .u 16 (.pick (.t 7) .tr (.t 15))])
 (.fg [16] (.cond (.t 16) (.seq (.ops false [.u 17 (.iface tE (.i 2)), .m 2 (.t 17)])
 .ret) .skip)))
 (.fg [] (.seq (.ops false [.m 2 (.c (.one (.lit .nilIface)))])
 .ret)))))
def ac_linkworkref17_Turn (f0 f1 : Nat) : AC := (.seq (.ops false [.u 1 (.box 4 (.t 0)), .m 2 .fa])
 (.fg [1] (.seq (.ops false [.u 3 (.fa 0 (.t 1)), .u 4 (.ld none 3 true (.t 3)), .u 5 (.call f0 [(.t 4)]), .m 6 (.t 5), .w 7 6 true (.fa 3 (.t 1)), .w 8 6 true (.ld none 1 false (.t 7)), .w 9 6 true (.un .not (.t 8)), .w 10 6 true (.mv (.t 9)), .w 11 10 false (.fa 0 (.t 1)), .w 12 10 false (.ld none 3 true (.t 11)), .w 13 10 false (.call f1 [(.t 12)]), .w 14 6 true (.pick (.t 10) .tr (.t 13)), .u 15 (.pick (.t 6) (.t 14) .fa), .m 2 (.t 15)])
 .ret)))
def ac_pose_Valid (f0 f1 : Nat) : AC := (.seq (.ops false [.u 1 (.box 10 (.t 0)), .m 2 .fa])
 (.fg [1] (.seq (.ops false [.u 3 (.fa 0 (.t 1)), .u 4 (.ld none 4 true (.t 3)), .u 5 (.call f0 [(.t 4)]), .u 6 (.binn .eql (.t 5) (.c (.one (.lit .nilIface)))), .m 7 (.t 6), .w 8 7 true (.fa 4 (.t 1)), .w 9 7 true (.ld none 6 true (.t 8)), .w 10 7 true (.call f1 [(.t 9)]), .u 11 (.pick (.t 7) (.t 10) .fa), .m 2 (.t 11)])
 .ret)))
def ac_linkworkref17_Valid (f0 f1 : Nat) : AC := (.seq (.ops false [.u 1 (.box 10 (.t 0)), .m 2 .fa])
 (.fg [1] (.seq (.ops false [.u 3 (.fa 0 (.t 1)), .u 4 (.ld none 4 true (.t 3)), .u 5 (.call f0 [(.t 4)]), .m 6 (.t 5), .w 7 6 true (.fa 4 (.t 1)), .w 8 6 true (.ld none 6 true (.t 7)), .w 9 6 true (.call f1 [(.t 8)]), .u 10 (.pick (.t 6) (.t 9) .fa), .m 2 (.t 10)])
 .ret)))
def ac_turn_direction (f0 f1 f2 f3 f4 : Nat) : AC := (.seq (.ops false [.u 1 (.box 4 (.t 0)), .u 2 (.alloc [(.lit (.bool false)), .emp, .emp]), .u 3 (.alloc [(.lit (.bool false)), .emp, .emp])])
 (.fg [1, 2, 3] (.seq (.seq (.ops false [.u 7 (.fa 3 (.t 1)), .u 8 (.ld none 1 false (.t 7))])
 (.fg [1, 2, 3, 8] (.cond (.t 8) (.seq (.ops false [.u 9 (.call f0 [(.i (-1))]), .u 10 (.build [.z [(.lit (.bool false)), .emp, .emp]]), .n (.st none 3 (.t 2) (.t 9)), .n (.st none 3 (.t 3) (.t 10))])
 .ret) .skip)))
 (.fg [1, 2, 3] (.seq (.ops true [.u 11 (.call f0 [(.i 1)]), .u 12 (.fa 0 (.t 1)), .u 13 (.ld none 3 true (.t 12)), .u 14 (.fa 0 (.t 1)), .u 15 (.ld none 3 true (.t 14)), .u 16 (.call f1 [(.t 13), (.t 15)]), .u 4 (.alloc [(.lit (.bool false)), .emp, .emp]), .u 5 (.alloc [(.lit (.bool false)), .emp, .emp]), .n (.st none 3 (.t 4) (.t 11)), .n (.st none 3 (.t 5) (.t 16))])
 (.fg [1, 2, 3, 4, 5] (.seq (.ops false [.u 17 (.ld none 3 true (.t 4)), .u 18 (.ld none 3 true (.t 5)), .u 19 (.call f2 [(.t 17), (.t 18)]), .u 6 (.alloc [(.lit (.bool false)), .emp, .emp]), .n (.st none 3 (.t 6) (.t 19))])
 (.fg [1, 2, 3, 4, 5, 6] (.seq (.ops true [.u 20 (.ld none 3 true (.t 4)), .u 21 (.ld none 3 true (.t 5)), .u 22 (.call f3 [(.t 20), (.t 21)]), .u 23 (.ld none 3 true (.t 6)), .u 24 (.call f4 [(.t 22), (.t 23)]), .u 25 (.fa 0 (.t 1)), .u 26 (.ld none 3 true (.t 25)), .u 27 (.fa 0 (.t 1)), .u 28 (.ld none 3 true (.t 27)), .u 29 (.call f2 [(.t 26), (.t 28)]), .u 30 (.ld none 3 true (.t 6)), .u 31 (.call f4 [(.t 29), (.t 30)]), .n (.st none 3 (.t 2) (.t 24)), .n (.st none 3 (.t 3) (.t 31))])
 .ret)))))))))
def ac_linkworklaw38_Same (f0 : Nat) : AC := (.seq (.ops false [.u 2 (.box 6 (.t 0)), .u 3 (.box 6 (.t 1)), .m 4 .fa])
 (.fg [2, 3] (.seq (.ops false [.u 5 (.fa 0 (.t 2)), .u 6 (.ld none 3 true (.t 5)), .u 7 (.fa 0 (.t 3)), .u 8 (.ld none 3 true (.t 7)), .u 9 (.call f0 [(.t 6), (.t 8)]), .m 10 (.t 9), .w 11 10 true (.fa 3 (.t 2)), .w 12 10 true (.ld none 3 true (.t 11)), .w 13 10 true (.fa 3 (.t 3)), .w 14 10 true (.ld none 3 true (.t 13)), .w 15 10 true (.call f0 [(.t 12), (.t 14)]), .u 16 (.pick (.t 10) (.t 15) .fa), .m 4 (.t 16)])
 .ret)))
theorem mk_eta {α β : Type} (p : α × β) : (p.1, p.2) = p := rfl
theorem al1 {p : Arc} {b : Nat} (h : al p ≤ b) : rl p.1 ≤ b ∧ rl p.2 ≤ b := ⟨Nat.le_trans (Nat.le_max_left _ _) h, Nat.le_trans (Nat.le_max_right _ _) h⟩
theorem pvalid_sound (hΓ : Holds P Γ) {f fv : Nat} (hv : Γ fv = .dat true rvalid_G) (hc : check P f = some (11, (ac_threepos_valid fv).strip, [.tmp 2])) : Sound P f (.dat true pvalid_G) := by
 refine sound_dat hc pvalid_good hΓ (fun args K hcl hfi hG => ?_)
 match args, hG with
 | [a], hG =>
  obtain ⟨p, rfl, hp, hl, hK⟩ := hG
  refine ⟨by simp, ?_⟩
  obtain ⟨l1, l2⟩ := al1 hl
  unfold avld at hK
  cases h1 : vldR p.1 <;> cases h2 : vldR p.2
  all_goals
   rw [h1, h2] at hK
   simp only [go_sem, ac_threepos_valid, hv, aC_eq, hp.1, hp.2, h1, h2, Bool.false_eq_true, Bool.true_eq_false]
  ·exact ⟨by omega, hK⟩
  ·exact ⟨by omega, hK⟩
  ·exact ⟨by omega, by omega, hK⟩
  ·exact ⟨by omega, by omega, hK⟩
theorem pless_sound (hΓ : Holds P Γ) {f fs : Nat} (hs : Γ fs = .dat false rsub_G) (hc : check P f = some (16, (ac_threepos_sub fs).strip, [.cell 4 6 true])) : Sound P f (.dat false pless_G) := by
 refine sound_dat hc pless_good hΓ (fun args K hcl hfi hG => ?_)
 match args, hG with
 | [a, b], hG =>
  obtain ⟨p, rfl, hp, q, rfl, hq, hl, hl', hK⟩ := hG
  refine ⟨by simp, ?_⟩
  obtain ⟨l1, l2⟩ := al1 hl
  obtain ⟨l3, l4⟩ := al1 hl'
  simp only [go_sem, ac_threepos_sub, hs, aC_eq, hp.1, hp.2, hq.1, hq.2]
  exact ⟨by omega, by omega, by omega, by omega, hK⟩
theorem pplus_sound (hΓ : Holds P Γ) {f fs : Nat} (hs : Γ fs = .dat false radd_G) (hc : check P f = some (16, (ac_pose_add fs).strip, [.cell 4 6 true])) : Sound P f (.dat false pplus_G) := by
 refine sound_dat hc pplus_good hΓ (fun args K hcl hfi hG => ?_)
 match args, hG with
 | [a, b], hG =>
  obtain ⟨p, rfl, hp, q, rfl, hq, hl, hl', hK⟩ := hG
  refine ⟨by simp, ?_⟩
  obtain ⟨l1, l2⟩ := al1 hl
  obtain ⟨l3, l4⟩ := al1 hl'
  simp only [go_sem, ac_pose_add, hs, aC_eq, hp.1, hp.2, hq.1, hq.2]
  exact ⟨by omega, by omega, by omega, by omega, hK⟩
theorem pcross_sound (hΓ : Holds P Γ) {f fm fs : Nat} (hm : Γ fm = .dat false rmul_G) (hs : Γ fs = .dat false rsub_G) (hc : check P f = some (16, (ac_threepos_cross fm fs).strip, [.cell 4 3 true])) : Sound P f (.dat false pcross_G) := by
 refine sound_dat hc pcross_good hΓ (fun args K hcl hfi hG => ?_)
 match args, hG with
 | [a, b], hG =>
  obtain ⟨p, rfl, hp, q, rfl, hq, hl, hl', hK⟩ := hG
  refine ⟨by simp, ?_⟩
  obtain ⟨l1, l2⟩ := al1 hl
  obtain ⟨l3, l4⟩ := al1 hl'
  have r1 := rz_rv hp.1
  have r2 := rz_rv hp.2
  have r3 := rz_rv hq.1
  have r4 := rz_rv hq.2
  have m1 := rz_mul (rv p.1) (rv q.2)
  have m2 := rz_mul (rv p.2) (rv q.1)
  simp only [go_sem, ac_threepos_cross, hm, hs, aC_eq, hp.1, hp.2, hq.1, hq.2]
  exact ⟨by omega, by omega, by omega, by omega, by omega, by omega, hK⟩
theorem psq_sound (hΓ : Holds P Γ) {f fm fs : Nat} (hm : Γ fm = .dat false rmul_G) (hs : Γ fs = .dat false radd_G) (hc : check P f = some (14, (ac_threepos_square fm fs).strip, [.cell 2 3 true])) : Sound P f (.dat false psq_G) := by
 refine sound_dat hc psq_good hΓ (fun args K hcl hfi hG => ?_)
 match args, hG with
 | [a], hG =>
  obtain ⟨p, rfl, hp, hl, hK⟩ := hG
  refine ⟨by simp, ?_⟩
  obtain ⟨l1, l2⟩ := al1 hl
  have r1 := rz_rv hp.1
  have r2 := rz_rv hp.2
  have m1 := rz_mul (rv p.1) (rv p.1)
  have m2 := rz_mul (rv p.2) (rv p.2)
  simp only [go_sem, ac_threepos_square, hm, hs, aC_eq, hp.1, hp.2]
  exact ⟨by omega, by omega, by omega, by omega, by omega, by omega, hK⟩
theorem psame_sound (hΓ : Holds P Γ) {f fc : Nat} (hc' : Γ fc = .dat true rcmp02_G) (hc : check P f = some (19, (ac_threepos_same fc).strip, [.tmp 4])) : Sound P f (.dat true psame_G) := by
 refine sound_dat hc psame_good hΓ (fun args K hcl hfi hG => ?_)
 match args, hG with
 | [a, b], hG =>
  obtain ⟨p, rfl, hp, q, rfl, hq, hl, hl', hK⟩ := hG
  refine ⟨by simp, ?_⟩
  obtain ⟨l1, l2⟩ := al1 hl
  obtain ⟨l3, l4⟩ := al1 hl'
  have e : decide (av p = av q) = (decide (ordQ (rv p.1) (rv q.1) = 0) && decide (ordQ (rv p.2) (rv q.2) = 0)) := by
   rw [← Bool.decide_and, decide_eq_decide, ordQ_eq0, ordQ_eq0]
   exact Prod.mk.injEq _ _ _ _ ▸ Iff.rfl
  rw [e] at hK
  by_cases h1 : ordQ (rv p.1) (rv q.1) = 0
  ·rw [decide_eq_true h1, Bool.true_and] at hK
   simp only [go_sem, ac_threepos_same, hc', aC_eq, hp.1, hp.2, hq.1, hq.2, h1]
   exact ⟨by omega, by omega, by omega, by omega, hK⟩
  ·rw [decide_eq_false h1, Bool.false_and] at hK
   simp only [go_sem, ac_threepos_same, hc', aC_eq, hp.1, hp.2, hq.1, hq.2, h1]
   exact ⟨by omega, by omega, hK⟩
theorem pclone_sound (hΓ : Holds P Γ) {f fs : Nat} (hs : Γ fs = .dat false pless_G) (hc : check P f = some (6, (ac_threepos_clone fs).strip, [.cell 2 6 true])) : Sound P f (.dat false pclone_G) := by
 refine sound_dat hc pclone_good hΓ (fun args K hcl hfi hG => ?_)
 match args, hG with
 | [a], hG =>
  obtain ⟨p, rfl, hp, hl, hK⟩ := hG
  refine ⟨by simp, ?_⟩
  obtain ⟨l1, l2⟩ := al1 hl
  have e : subQ (av p) (0, 0) = av p := by
   unfold subQ av; simp only [Prod.mk.injEq]; constructor <;> grind
  have e2 : av (rcan 0, rcan 0) = (0, 0) := by rw [av_mk, rv_rcan]
  have e3 : al (rcan 0, rcan 0) ≤ 100000000 := by rw [al_can, rz_0]; decide
  simp only [go_sem, ac_threepos_clone, hs, aC_eq, e2, e3, e]
  exact ⟨hp, hl, hK⟩
theorem rzero_sound (hΓ : Holds P Γ) {f fs : Nat} (hs : Γ fs = .dat true rsign_G) (hc : check P f = some (6, (ac_linkworkref17_Zero fs).strip, [.tmp 2])) : Sound P f (.dat true rzero_G) := by
 refine sound_dat hc rzero_good hΓ (fun args K hcl hfi hG => ?_)
 match args, hG with
 | [a], hG =>
  obtain ⟨x, rfl, hx, hl, hK⟩ := hG
  refine ⟨by simp, ?_⟩
  have e : decide (rv x = 0) = decide (ordQ (rv x) 0 = 0) := by rw [decide_eq_decide, ordQ_eq0]
  rw [e] at hK
  simp only [go_sem, ac_linkworkref17_Zero, hs, hx]
  exact ⟨hl, hK⟩
theorem rover_sound (hΓ : Holds P Γ) {f fd tE : Nat} (hd : Γ fd = .dat false (rdivE_G tE)) (hc : check P f = some (17, (ac_turn_over fd).strip, [.cell 4 3 true])) : Sound P f (.dat false rover_G) := by
 refine sound_dat hc rover_good hΓ (fun args K hcl hfi hG => ?_)
 match args, hG with
 | [a, b], hG =>
  obtain ⟨x, rfl, hx, y, rfl, hy, hl, hl', hK⟩ := hG
  refine ⟨by simp, ?_⟩
  by_cases h0 : rv y = 0
  ·rw [h0, Rat.div_def, Rat.inv_zero, Rat.mul_zero, rQ_eq, rcan_zero] at hK
   have e : errV tE 8 = .one (.lit (.iface tE (.int .i64 8))) := errV_s tE (by decide)
   simp only [go_sem, ac_turn_over, hd, hx, hy, h0, e]
   exact ⟨by omega, by omega, hK⟩
  ·simp only [go_sem, ac_turn_over, hd, hx, hy, h0, errV_0]
   exact ⟨by omega, by omega, hK⟩
theorem roverN_sound (hΓ : Holds P Γ) {f fd : Nat} (hd : Γ fd = .dat false rdivN_G) (hc : check P f = some (14, (ac_linkworkref17_over fd).strip, [.cell 4 3 true])) : Sound P f (.dat false rover_G) := by
 refine sound_dat hc rover_good hΓ (fun args K hcl hfi hG => ?_)
 match args, hG with
 | [a, b], hG =>
  obtain ⟨x, rfl, hx, y, rfl, hy, hl, hl', hK⟩ := hG
  refine ⟨by simp, ?_⟩
  simp only [go_sem, ac_linkworkref17_over, hd, hx, hy]
  exact ⟨hl, hl', hK⟩
theorem tchk_t (t : Tn) : tchk t = if vldR t.1 = true ∧ ¬ (t.2 = true ∧ rv t.1 ≠ 0) then 0 else 2 := rfl
theorem tcheck_sound (hΓ : Holds P Γ) {f fv fs tE : Nat} (hv : Γ fv = .dat true rvalid_G) (hs : Γ fs = .dat true rsign_G) (hc : check P f = some (18, (ac_turn_Check fv fs tE).strip, [.tmp 2])) : Sound P f (.dat false (tcheck_G tE)) := by
 refine sound_dat hc (tcheck_good tE) hΓ (fun args K hcl hfi hG => ?_)
 match args, hG with
 | [a], hG =>
  obtain ⟨t, rfl, ht, hl, hK⟩ := hG
  refine ⟨by simp, ?_⟩
  rw [tchk_t] at hK
  have e2 : errV tE 2 = .one (.lit (.iface tE (.int .i64 2))) := errV_s tE (by decide)
  cases h1 : vldR t.1 with
  | false =>
   rw [if_neg (fun h => by rw [h1] at h; exact absurd h.1 (by decide)), e2] at hK
   simp only [go_sem, ac_turn_Check, hv, hs, tA, tC, ht, h1]
   exact ⟨by omega, hK⟩
  | true =>
   cases h2 : t.2 with
   | false =>
    rw [if_pos ⟨h1, fun h => by rw [h2] at h; exact absurd h.1 (by decide)⟩, errV_0] at hK
    simp only [go_sem, ac_turn_Check, hv, hs, tA, tC, ht, h1, h2]
    exact ⟨by omega, hK⟩
   | true =>
    by_cases h3 : ordQ (rv t.1) 0 = 0
    ·rw [if_pos ⟨h1, fun h => h.2 (ordQ_eq0.1 h3)⟩, errV_0] at hK
     simp only [go_sem, ac_turn_Check, hv, hs, tA, tC, ht, h1, h2, h3]
     exact ⟨by omega, by omega, hK⟩
    ·rw [if_neg (fun h => h.2 ⟨h2, fun e => h3 (ordQ_eq0.2 e)⟩), e2] at hK
     simp only [go_sem, ac_turn_Check, hv, hs, tA, tC, ht, h1, h2, h3]
     exact ⟨by omega, by omega, hK⟩
theorem tvalid_sound (hΓ : Holds P Γ) {f fv fz : Nat} (hv : Γ fv = .dat true rvalid_G) (hz : Γ fz = .dat true rzero_G) (hc : check P f = some (16, (ac_linkworkref17_Turn fv fz).strip, [.tmp 2])) : Sound P f (.dat true tvalid_G) := by
 refine sound_dat hc tvalid_good hΓ (fun args K hcl hfi hG => ?_)
 match args, hG with
 | [a], hG =>
  obtain ⟨t, rfl, ht, hl, hK⟩ := hG
  refine ⟨by simp, ?_⟩
  rw [tchk_t] at hK
  cases h1 : vldR t.1 with
  | false =>
   rw [if_neg (fun h => by rw [h1] at h; exact absurd h.1 (by decide))] at hK
   simp only [go_sem, ac_linkworkref17_Turn, hv, hz, tA, tC, ht, h1]
   exact ⟨by omega, hK⟩
  | true =>
   cases h2 : t.2 with
   | false =>
    rw [if_pos ⟨h1, fun h => by rw [h2] at h; exact absurd h.1 (by decide)⟩] at hK
    simp only [go_sem, ac_linkworkref17_Turn, hv, hz, tA, tC, ht, h1, h2]
    exact ⟨by omega, hK⟩
   | true =>
    by_cases h3 : rv t.1 = 0
    ·rw [if_pos ⟨h1, fun h => h.2 h3⟩] at hK
     simp only [go_sem, ac_linkworkref17_Turn, hv, hz, tA, tC, ht, h1, h2, h3]
     exact ⟨by omega, by omega, hK⟩
    ·rw [if_neg (fun h => h.2 ⟨h2, h3⟩)] at hK
     simp only [go_sem, ac_linkworkref17_Turn, hv, hz, tA, tC, ht, h1, h2, h3]
     exact ⟨by omega, by omega, hK⟩
theorem pl1 {p : Ps} {b : Nat} (h : pl p ≤ b) : rl p.1.1 ≤ b ∧ al p.2 ≤ b := ⟨Nat.le_trans (Nat.le_max_left _ _) h, Nat.le_trans (Nat.le_max_right _ _) h⟩
theorem tchk_02 (t : Tn) : tchk t = 0 ∨ tchk t = 2 := by unfold tchk; split <;> simp
theorem pvld_sound (hΓ : Holds P Γ) {f ft fp : Nat} {tE : Nat} (ht : Γ ft = .dat false (tcheck_G tE)) (hp' : Γ fp = .dat true pvalid_G) (hc : check P f = some (12, (ac_pose_Valid ft fp).strip, [.tmp 2])) : Sound P f (.dat true pvld_G) := by
 refine sound_dat hc pvld_good hΓ (fun args K hcl hfi hG => ?_)
 match args, hG with
 | [a], hG =>
  obtain ⟨p, rfl, hp, hl, hK⟩ := hG
  refine ⟨by simp, ?_⟩
  obtain ⟨l1, l2⟩ := pl1 hl
  unfold pvld at hK
  rcases tchk_02 p.1 with h | h
  ·rw [h] at hK
   simp only [go_sem, ac_pose_Valid, ht, hp', poA, pC, mk_eta, h, errV_0, hp.1, hp.2]
   exact ⟨l1, l2, hK⟩
  ·have e2 : errV tE 2 = .one (.lit (.iface tE (.int .i64 2))) := errV_s tE (by decide)
   rw [h] at hK
   simp only [go_sem, ac_pose_Valid, ht, hp', poA, pC, mk_eta, h, e2, hp.1, hp.2]
   exact ⟨l1, hK⟩
theorem pvldN_sound (hΓ : Holds P Γ) {f ft fp : Nat} (ht : Γ ft = .dat true tvalid_G) (hp' : Γ fp = .dat true pvalid_G) (hc : check P f = some (11, (ac_linkworkref17_Valid ft fp).strip, [.tmp 2])) : Sound P f (.dat true pvld_G) := by
 refine sound_dat hc pvld_good hΓ (fun args K hcl hfi hG => ?_)
 match args, hG with
 | [a], hG =>
  obtain ⟨p, rfl, hp, hl, hK⟩ := hG
  refine ⟨by simp, ?_⟩
  obtain ⟨l1, l2⟩ := pl1 hl
  unfold pvld at hK
  by_cases h : tchk p.1 = 0
  ·rw [decide_eq_true h] at hK
   simp only [go_sem, ac_linkworkref17_Valid, ht, hp', poA, pC, mk_eta, h, hp.1, hp.2]
   exact ⟨l1, ⟨l2, hK⟩, fun h => absurd trivial h⟩
  ·rw [decide_eq_false h] at hK
   simp only [go_sem, ac_linkworkref17_Valid, ht, hp', poA, pC, mk_eta, h, hp.1, hp.2]
   exact ⟨l1, hK⟩
theorem tdir_sound (hΓ : Holds P Γ) {f fo fm fa fs fv : Nat} (ho : Γ fo = .dat false rof_G) (hm : Γ fm = .dat false rmul_G) (ha : Γ fa = .dat false radd_G) (hs : Γ fs = .dat false rsub_G) (hov : Γ fv = .dat false rover_G) (hc : check P f = some (32, (ac_turn_direction fo fm fa fs fv).strip, [.cell 2 3 true, .cell 3 3 true])) : Sound P f (.dat false tdir_G) := by
 refine sound_dat hc tdir_good hΓ (fun args K hcl hfi hG => ?_)
 match args, hG with
 | [a], hG =>
  obtain ⟨t, rfl, ht, hl, hK⟩ := hG
  refine ⟨by simp, ?_⟩
  have r1 := rz_rv ht
  have h0 := rz_1
  have h1 := rz_mul (rv t.1) (rv t.1)
  have h2 := rz_sub 1 (rv t.1 * rv t.1)
  have h3 := rz_add 1 (rv t.1 * rv t.1)
  have h4 := rz_add (rv t.1) (rv t.1)
  have c1 : ((1 : Int) : Rat) = 1 := rfl
  have c2 : ((-1 : Int) : Rat) = -1 := rfl
  unfold cosQ sinQ at hK
  cases hh : t.2 with
  | true =>
   have e : (tv t).2 = true := hh
   rw [if_pos e, if_pos e] at hK
   simp only [go_sem, ac_turn_direction, ho, hm, ha, hs, hov, tA, tC, ht, hh, c1, c2]
   refine ⟨by decide, by decide, ?_⟩
   simp only [rQ_eq, rcan_zero] at hK
   exact hK
  | false =>
   have e : ¬ ((tv t).2 = true) := by show ¬ (t.2 = true); rw [hh]; decide
   rw [if_neg e, if_neg e] at hK
   simp only [go_sem, ac_turn_direction, ho, hm, ha, hs, hov, tA, tC, ht, hh, c1, c2]
   refine ⟨by decide, by decide, by omega, by omega, by omega, by omega, by omega, by omega, by omega, by omega, by omega, by omega, by omega, by omega, hK⟩
theorem lsame_sound (hΓ : Holds P Γ) {f fb : Nat} (hb : Γ fb = .dat true brat_G) (hc : check P f = some (17, (ac_linkworklaw38_Same fb).strip, [.tmp 4])) : Sound P f (.dat true lsame_G) := by
 refine sound_dat hc lsame_good hΓ (fun args K hcl hfi hG => ?_)
 match args, hG with
 | [a, b], hG =>
  obtain ⟨p, rfl, hp, q, rfl, hq, hl, hK⟩ := hG
  refine ⟨by simp, ?_⟩
  obtain ⟨l1, l2⟩ := al1 hl
  have e : decide (p = q) = (decide (p.1 = q.1) && decide (p.2 = q.2)) := by
   rw [← Bool.decide_and, decide_eq_decide]
   exact Prod.ext_iff
  rw [e] at hK
  by_cases h1 : p.1 = q.1
  ·rw [decide_eq_true h1, Bool.true_and] at hK
   simp only [go_sem, ac_linkworklaw38_Same, hb, aC_eq, hp.1, hp.2, hq.1, hq.2, h1, decide_true]
   exact ⟨by rw [← h1]; exact l1, l2, hK⟩
  ·rw [decide_eq_false h1, Bool.false_and] at hK
   simp only [go_sem, ac_linkworklaw38_Same, hb, aC_eq, hp.1, hp.2, hq.1, hq.2, h1, decide_false]
   exact ⟨l1, hK⟩
end Go.Abs
end
section
set_option linter.unusedVariables false
set_option linter.unusedSimpArgs false
set_option maxRecDepth 100000
namespace Go.Num
open Go.Abs
def aok (p : Ps) (q : Arc) : Bool := pvld p && avld q
def plchk (l : List Ps) : Nat := if l.length < 2 then 10 else if 5 < l.length then 4 else if l.all pvld then 0 else 2
def threeC (l : List Ps) : Nat := if plchk l ≠ 0 then plchk l else if l.length = 3 then 0 else 10
def imgs (l : List Ps) (q : Arc) : List V2 := l.map fun p => appQ (pv p) (av q)
def imgC (l : List Ps) (q : Arc) : Nat := if l.all (fun p => aok p q) then 0 else 2
theorem tchk_can (t : Rat) (h : Bool) : tchk (rcan t, h) = if h = true ∧ t ≠ 0 then 2 else 0 := by
 unfold tchk
 simp only [vld_rcan, rv_rcan, true_and]
 by_cases hh : h = true ∧ t ≠ 0
 ·rw [if_neg (fun k => k hh), if_pos hh]
 ·rw [if_pos hh, if_neg hh]
end Go.Num
namespace Go.Abs
open Go.Num
variable {P : Program} {Γ : Nat → Spec}
def psQ (p : PsQ) : AV := .agg [cb (rcan p.1.1), cn (rcan p.1.1), cd (rcan p.1.1), .lit (.bool p.1.2), cb (rcan p.2.1), cn (rcan p.2.1), cd (rcan p.2.1), cb (rcan p.2.2), cn (rcan p.2.2), cd (rcan p.2.2)]
theorem psQ_eq (p : PsQ) : psQ p = .agg [cb (rcan p.1.1), cn (rcan p.1.1), cd (rcan p.1.1), .lit (.bool p.1.2), cb (rcan p.2.1), cn (rcan p.2.1), cd (rcan p.2.1), cb (rcan p.2.2), cn (rcan p.2.2), cd (rcan p.2.2)] := eq_of_heq (HEq.refl _)
attribute [go_sem] psQ_eq
attribute [go_sem ↓] psQ_eq
def tcos_G (tE : Nat) (l : List AV) (K : AV → Prop) : Prop :=
 match l with
 | [a] => onT (fun t => rl t.1 ≤ 10000000 ∧ K (.tup [rQ (if tchk t = 0 then cosQ (tv t) else 0), errV tE (tchk t)])) a
 | _ => False
theorem tcos_Ge (tE : Nat) (a : AV) (K : AV → Prop) : tcos_G tE [a] K = (onT (fun t => rl t.1 ≤ 10000000 ∧ K (.tup [rQ (if tchk t = 0 then cosQ (tv t) else 0), errV tE (tchk t)])) a) := propext Iff.rfl
@[congr] theorem tcos_Gc (tE : Nat) {K : AV → Prop} {l l' : List AV} (h : l = l') : tcos_G tE l K = tcos_G tE l' K := by subst h; rfl
attribute [go_sem] tcos_Ge
attribute [go_sem ↓] tcos_Ge
theorem tcos_good (tE : Nat) : Good (tcos_G tE) := good_of fun as => by
 unfold tcos_G
 split
 ·exact (g_onT fun _ => (.and fun _ => (.ret _)))
 ·exact .of fun K hk => hk.elim
def tsin_G (tE : Nat) (l : List AV) (K : AV → Prop) : Prop :=
 match l with
 | [a] => onT (fun t => rl t.1 ≤ 10000000 ∧ K (.tup [rQ (if tchk t = 0 then sinQ (tv t) else 0), errV tE (tchk t)])) a
 | _ => False
theorem tsin_Ge (tE : Nat) (a : AV) (K : AV → Prop) : tsin_G tE [a] K = (onT (fun t => rl t.1 ≤ 10000000 ∧ K (.tup [rQ (if tchk t = 0 then sinQ (tv t) else 0), errV tE (tchk t)])) a) := propext Iff.rfl
@[congr] theorem tsin_Gc (tE : Nat) {K : AV → Prop} {l l' : List AV} (h : l = l') : tsin_G tE l K = tsin_G tE l' K := by subst h; rfl
attribute [go_sem] tsin_Ge
attribute [go_sem ↓] tsin_Ge
theorem tsin_good (tE : Nat) : Good (tsin_G tE) := good_of fun as => by
 unfold tsin_G
 split
 ·exact (g_onT fun _ => (.and fun _ => (.ret _)))
 ·exact .of fun K hk => hk.elim
def pdir_G (tE : Nat) (l : List AV) (K : AV → Prop) : Prop :=
 match l with
 | [a] => onT (fun t => rl t.1 ≤ 10000000 ∧ K (.tup [rQ (if tchk t = 0 then cosQ (tv t) else 0), rQ (if tchk t = 0 then sinQ (tv t) else 0), errV tE (tchk t)])) a
 | _ => False
theorem pdir_Ge (tE : Nat) (a : AV) (K : AV → Prop) : pdir_G tE [a] K = (onT (fun t => rl t.1 ≤ 10000000 ∧ K (.tup [rQ (if tchk t = 0 then cosQ (tv t) else 0), rQ (if tchk t = 0 then sinQ (tv t) else 0), errV tE (tchk t)])) a) := propext Iff.rfl
@[congr] theorem pdir_Gc (tE : Nat) {K : AV → Prop} {l l' : List AV} (h : l = l') : pdir_G tE l K = pdir_G tE l' K := by subst h; rfl
attribute [go_sem] pdir_Ge
attribute [go_sem ↓] pdir_Ge
theorem pdir_good (tE : Nat) : Good (pdir_G tE) := good_of fun as => by
 unfold pdir_G
 split
 ·exact (g_onT fun _ => (.and fun _ => (.ret _)))
 ·exact .of fun K hk => hk.elim
def prot_G (tE : Nat) (l : List AV) (K : AV → Prop) : Prop :=
 match l with
 | [a, b] => onT (fun t => onA (fun q => rl t.1 ≤ 10000000 ∧ al q ≤ 10000000 ∧ K (.tup [pQ (if tchk t = 0 then rotQ (tv t) (av q) else (0, 0)), errV tE (tchk t)])) b) a
 | _ => False
theorem prot_Ge (tE : Nat) (a b : AV) (K : AV → Prop) : prot_G tE [a, b] K = (onT (fun t => onA (fun q => rl t.1 ≤ 10000000 ∧ al q ≤ 10000000 ∧ K (.tup [pQ (if tchk t = 0 then rotQ (tv t) (av q) else (0, 0)), errV tE (tchk t)])) b) a) := propext Iff.rfl
@[congr] theorem prot_Gc (tE : Nat) {K : AV → Prop} {l l' : List AV} (h : l = l') : prot_G tE l K = prot_G tE l' K := by subst h; rfl
attribute [go_sem] prot_Ge
attribute [go_sem ↓] prot_Ge
theorem prot_good (tE : Nat) : Good (prot_G tE) := good_of fun as => by
 unfold prot_G
 split
 ·exact (g_onT fun _ => (g_onA fun _ => (.and fun _ => (.and fun _ => (.ret _)))))
 ·exact .of fun K hk => hk.elim
def rrot_G (l : List AV) (K : AV → Prop) : Prop :=
 match l with
 | [a, b] => onT (fun t => onA (fun q => rl t.1 ≤ 10000000 ∧ al q ≤ 10000000 ∧ K (pQ (rotQ (tv t) (av q)))) b) a
 | _ => False
theorem rrot_Ge (a b : AV) (K : AV → Prop) : rrot_G [a, b] K = (onT (fun t => onA (fun q => rl t.1 ≤ 10000000 ∧ al q ≤ 10000000 ∧ K (pQ (rotQ (tv t) (av q)))) b) a) := propext Iff.rfl
@[congr] theorem rrot_Gc {K : AV → Prop} {l l' : List AV} (h : l = l') : rrot_G l K = rrot_G l' K := by subst h; rfl
attribute [go_sem] rrot_Ge
attribute [go_sem ↓] rrot_Ge
theorem rrot_good : Good rrot_G := good_of fun as => by
 unfold rrot_G
 split
 ·exact (g_onT fun _ => (g_onA fun _ => (.and fun _ => (.and fun _ => (.ret _)))))
 ·exact .of fun K hk => hk.elim
def papp_G (tE : Nat) (l : List AV) (K : AV → Prop) : Prop :=
 match l with
 | [a, b] => onPo (fun p => onA (fun q => pl p ≤ 1000000 ∧ al q ≤ 1000000 ∧ K (.tup [pQ (if aok p q = true then appQ (pv p) (av q) else (0, 0)), errV tE (if aok p q = true then 0 else 2)])) b) a
 | _ => False
theorem papp_Ge (tE : Nat) (a b : AV) (K : AV → Prop) : papp_G tE [a, b] K = (onPo (fun p => onA (fun q => pl p ≤ 1000000 ∧ al q ≤ 1000000 ∧ K (.tup [pQ (if aok p q = true then appQ (pv p) (av q) else (0, 0)), errV tE (if aok p q = true then 0 else 2)])) b) a) := propext Iff.rfl
@[congr] theorem papp_Gc (tE : Nat) {K : AV → Prop} {l l' : List AV} (h : l = l') : papp_G tE l K = papp_G tE l' K := by subst h; rfl
attribute [go_sem] papp_Ge
attribute [go_sem ↓] papp_Ge
theorem papp_good (tE : Nat) : Good (papp_G tE) := good_of fun as => by
 unfold papp_G
 split
 ·exact (g_onPo fun _ => (g_onA fun _ => (.and fun _ => (.and fun _ => (.ret _)))))
 ·exact .of fun K hk => hk.elim
def rapp_G (l : List AV) (K : AV → Prop) : Prop :=
 match l with
 | [a, b] => onPo (fun p => onA (fun q => pl p ≤ 1000000 ∧ al q ≤ 1000000 ∧ K (pQ (appQ (pv p) (av q)))) b) a
 | _ => False
theorem rapp_Ge (a b : AV) (K : AV → Prop) : rapp_G [a, b] K = (onPo (fun p => onA (fun q => pl p ≤ 1000000 ∧ al q ≤ 1000000 ∧ K (pQ (appQ (pv p) (av q)))) b) a) := propext Iff.rfl
@[congr] theorem rapp_Gc {K : AV → Prop} {l l' : List AV} (h : l = l') : rapp_G l K = rapp_G l' K := by subst h; rfl
attribute [go_sem] rapp_Ge
attribute [go_sem ↓] rapp_Ge
theorem rapp_good : Good rapp_G := good_of fun as => by
 unfold rapp_G
 split
 ·exact (g_onPo fun _ => (g_onA fun _ => (.and fun _ => (.and fun _ => (.ret _)))))
 ·exact .of fun K hk => hk.elim
def ptneg_G (tE : Nat) (l : List AV) (K : AV → Prop) : Prop :=
 match l with
 | [a] => onT (fun t => rl t.1 ≤ 10000000 ∧ K (.tup [tQ (if tchk t = 0 then backQ (tv t) else (0, false)), errV tE (tchk t)])) a
 | _ => False
theorem ptneg_Ge (tE : Nat) (a : AV) (K : AV → Prop) : ptneg_G tE [a] K = (onT (fun t => rl t.1 ≤ 10000000 ∧ K (.tup [tQ (if tchk t = 0 then backQ (tv t) else (0, false)), errV tE (tchk t)])) a) := propext Iff.rfl
@[congr] theorem ptneg_Gc (tE : Nat) {K : AV → Prop} {l l' : List AV} (h : l = l') : ptneg_G tE l K = ptneg_G tE l' K := by subst h; rfl
attribute [go_sem] ptneg_Ge
attribute [go_sem ↓] ptneg_Ge
def pinv_G (tE : Nat) (l : List AV) (K : AV → Prop) : Prop :=
 match l with
 | [a] => onPo (fun p => pl p ≤ 1000000 ∧ K (.tup [psQ (if pvld p = true then invQ (pv p) else ((0, false), (0, 0))), errV tE (if pvld p = true then 0 else 2)])) a
 | _ => False
theorem pinv_Ge (tE : Nat) (a : AV) (K : AV → Prop) : pinv_G tE [a] K = (onPo (fun p => pl p ≤ 1000000 ∧ K (.tup [psQ (if pvld p = true then invQ (pv p) else ((0, false), (0, 0))), errV tE (if pvld p = true then 0 else 2)])) a) := propext Iff.rfl
@[congr] theorem pinv_Gc (tE : Nat) {K : AV → Prop} {l l' : List AV} (h : l = l') : pinv_G tE l K = pinv_G tE l' K := by subst h; rfl
attribute [go_sem] pinv_Ge
attribute [go_sem ↓] pinv_Ge
def rinv_G (l : List AV) (K : AV → Prop) : Prop :=
 match l with
 | [a] => onPo (fun p => pl p ≤ 1000000 ∧ K (psQ (invQ (pv p)))) a
 | _ => False
theorem rinv_Ge (a : AV) (K : AV → Prop) : rinv_G [a] K = (onPo (fun p => pl p ≤ 1000000 ∧ K (psQ (invQ (pv p)))) a) := propext Iff.rfl
@[congr] theorem rinv_Gc {K : AV → Prop} {l l' : List AV} (h : l = l') : rinv_G l K = rinv_G l' K := by subst h; rfl
attribute [go_sem] rinv_Ge
attribute [go_sem ↓] rinv_Ge
def ac_turn_Cos (f0 f1 : Nat) : AC := (.seq (.ops false [.u 1 (.box 4 (.t 0)), .u 2 (.alloc [(.lit (.bool false)), .emp, .emp]), .m 3 (.c (.one (.lit .nilIface)))])
 (.fg [1, 2] (.seq (.seq (.ops false [.u 7 (.ld none 4 true (.t 1)), .u 8 (.call f0 [(.t 7)]), .m 4 (.t 8)])
 (.fg [1, 2, 4] (.seq (.ops false [.m 9 (.t 4), .u 10 (.binn .neq (.t 9) (.c (.one (.lit .nilIface))))])
 (.fg [1, 2, 4, 10] (.cond (.t 10) (.seq (.ops false [.u 11 (.build [.z [(.lit (.bool false)), .emp, .emp]]), .m 12 (.t 4), .n (.st none 3 (.t 2) (.t 11)), .m 3 (.t 12)])
 .ret) .skip)))))
 (.fg [1, 2] (.seq (.ops false [.u 14 (.ld none 4 true (.t 1)), .u 15 (.call f1 [(.t 14)]), .m 13 (.t 15), .u 16 (.ext 0 (.t 13)), .u 17 (.ext 1 (.t 13)), .u 5 (.alloc [(.lit (.bool false)), .emp, .emp]), .u 6 (.alloc [(.lit (.bool false)), .emp, .emp]), .n (.st none 3 (.t 5) (.t 16)), .n (.st none 3 (.t 6) (.t 17))])
 (.fg [2, 5] (.seq (.ops false [.u 18 (.ld none 3 true (.t 5)), .n (.st none 3 (.t 2) (.t 18)), .m 3 (.c (.one (.lit .nilIface)))])
 .ret)))))))
def ac_turn_Sin (f0 f1 : Nat) : AC := (.seq (.ops false [.u 1 (.box 4 (.t 0)), .u 2 (.alloc [(.lit (.bool false)), .emp, .emp]), .m 3 (.c (.one (.lit .nilIface)))])
 (.fg [1, 2] (.seq (.seq (.ops false [.u 7 (.ld none 4 true (.t 1)), .u 8 (.call f0 [(.t 7)]), .m 4 (.t 8)])
 (.fg [1, 2, 4] (.seq (.ops false [.m 9 (.t 4), .u 10 (.binn .neq (.t 9) (.c (.one (.lit .nilIface))))])
 (.fg [1, 2, 4, 10] (.cond (.t 10) (.seq (.ops false [.u 11 (.build [.z [(.lit (.bool false)), .emp, .emp]]), .m 12 (.t 4), .n (.st none 3 (.t 2) (.t 11)), .m 3 (.t 12)])
 .ret) .skip)))))
 (.fg [1, 2] (.seq (.ops false [.u 14 (.ld none 4 true (.t 1)), .u 15 (.call f1 [(.t 14)]), .m 13 (.t 15), .u 16 (.ext 0 (.t 13)), .u 17 (.ext 1 (.t 13)), .u 5 (.alloc [(.lit (.bool false)), .emp, .emp]), .u 6 (.alloc [(.lit (.bool false)), .emp, .emp]), .n (.st none 3 (.t 5) (.t 16)), .n (.st none 3 (.t 6) (.t 17))])
 (.fg [2, 6] (.seq (.ops false [.u 18 (.ld none 3 true (.t 6)), .n (.st none 3 (.t 2) (.t 18)), .m 3 (.c (.one (.lit .nilIface)))])
 .ret)))))))
def ac_pose_Direction (f0 f1 f2 tE : Nat) : AC := (.seq (.ops false [.u 1 (.box 4 (.t 0)), .u 2 (.alloc [(.lit (.bool false)), .emp, .emp]), .u 3 (.alloc [(.lit (.bool false)), .emp, .emp]), .m 4 (.c (.one (.lit .nilIface)))])
 (.fg [1, 2, 3] (.seq (.seq (.ops false [.u 5 (.ld none 4 true (.t 1)), .u 6 (.call f0 [(.t 5)]), .u 7 (.binn .neq (.t 6) (.c (.one (.lit .nilIface))))])
 (.fg [1, 2, 3, 7] (.cond (.t 7) (.seq (.ops false [.u 8 (.build [.z [(.lit (.bool false)), .emp, .emp]]), .u 9 (.build [.z [(.lit (.bool false)), .emp, .emp]]), .u 10 (.iface tE (.i 2)), .n (.st none 3 (.t 2) (.t 8)), .n (.st none 3 (.t 3) (.t 9)), .m 4 (.t 10)])
 .ret) .skip)))
 (.fg [1, 2, 3] (.seq (.seq (.ops false [.u 12 (.ld none 4 true (.t 1)), .u 13 (.call f1 [(.t 12)]), .m 11 (.t 13), .u 14 (.ext 0 (.t 11)), .u 15 (.ext 1 (.t 11)), .n (.st none 3 (.t 2) (.t 14)), .m 4 (.t 15)])
 (.fg [1, 2, 3, 4] (.seq (.ops false [.m 16 (.t 4), .u 17 (.binn .neq (.t 16) (.c (.one (.lit .nilIface))))])
 (.fg [1, 2, 3, 4, 17] (.cond (.t 17) (.seq (.ops false [.u 18 (.build [.z [(.lit (.bool false)), .emp, .emp]]), .u 19 (.build [.z [(.lit (.bool false)), .emp, .emp]]), .m 20 (.t 4), .n (.st none 3 (.t 2) (.t 18)), .n (.st none 3 (.t 3) (.t 19)), .m 4 (.t 20)])
 .ret) .skip)))))
 (.fg [1, 2, 3] (.seq (.ops false [.u 22 (.ld none 4 true (.t 1)), .u 23 (.call f2 [(.t 22)]), .m 21 (.t 23), .u 24 (.ext 0 (.t 21)), .u 25 (.ext 1 (.t 21)), .n (.st none 3 (.t 3) (.t 24)), .m 4 (.t 25)])
 (.fg [2, 3, 4] (.seq (.ops true [.u 26 (.ld (some 2) 3 true (.t 2)), .u 27 (.ld (some 3) 3 true (.t 3)), .m 28 (.t 4), .n (.st (some 2) 3 (.t 2) (.t 26)), .n (.st (some 3) 3 (.t 3) (.t 27)), .m 4 (.t 28)])
 .ret)))))))))
def ac_pose_rotate (f0 f1 f2 f3 : Nat) : AC := (.seq (.ops false [.u 2 (.box 4 (.t 0)), .u 3 (.box 6 (.t 1)), .u 4 (.alloc [(.lit (.bool false)), .emp, .emp, (.lit (.bool false)), .emp, .emp]), .m 5 (.c (.one (.lit .nilIface)))])
 (.fg [2, 3, 4] (.seq (.ops false [.u 10 (.ld none 4 true (.t 2)), .u 11 (.call f0 [(.t 10)]), .m 9 (.t 11), .u 12 (.ext 0 (.t 9)), .u 13 (.ext 1 (.t 9)), .u 14 (.ext 2 (.t 9)), .u 6 (.alloc [(.lit (.bool false)), .emp, .emp]), .u 7 (.alloc [(.lit (.bool false)), .emp, .emp]), .n (.st none 3 (.t 6) (.t 12)), .n (.st none 3 (.t 7) (.t 13)), .m 8 (.t 14)])
 (.fg [3, 4, 6, 7, 8] (.seq (.seq (.ops false [.m 15 (.t 8), .u 16 (.binn .neq (.t 15) (.c (.one (.lit .nilIface))))])
 (.fg [3, 4, 6, 7, 8, 16] (.cond (.t 16) (.seq (.ops false [.u 17 (.build [.z [(.lit (.bool false)), .emp, .emp, (.lit (.bool false)), .emp, .emp]]), .m 18 (.t 8), .n (.st none 6 (.t 4) (.t 17)), .m 5 (.t 18)])
 .ret) .skip)))
 (.fg [3, 4, 6, 7] (.seq (.ops true [.u 19 (.ld none 3 true (.t 6)), .u 20 (.fa 0 (.t 3)), .u 21 (.ld none 3 true (.t 20)), .u 22 (.call f1 [(.t 19), (.t 21)]), .u 23 (.ld none 3 true (.t 7)), .u 24 (.fa 3 (.t 3)), .u 25 (.ld none 3 true (.t 24)), .u 26 (.call f1 [(.t 23), (.t 25)]), .u 27 (.call f2 [(.t 22), (.t 26)]), .u 28 (.ld none 3 true (.t 7)), .u 29 (.fa 0 (.t 3)), .u 30 (.ld none 3 true (.t 29)), .u 31 (.call f1 [(.t 28), (.t 30)]), .u 32 (.ld none 3 true (.t 6)), .u 33 (.fa 3 (.t 3)), .u 34 (.ld none 3 true (.t 33)), .u 35 (.call f1 [(.t 32), (.t 34)]), .u 36 (.call f3 [(.t 31), (.t 35)]), .u 37 (.build [.x 3 (.t 27), .x 3 (.t 36)]), .n (.st none 6 (.t 4) (.t 37)), .m 5 (.c (.one (.lit .nilIface)))])
 .ret)))))))
def ac_linkworkref17_Rotate (f0 f1 f2 f3 : Nat) : AC := (.seq (.ops false [.u 2 (.box 4 (.t 0)), .u 3 (.box 6 (.t 1)), .u 4 (.alloc [(.lit (.bool false)), .emp, .emp, (.lit (.bool false)), .emp, .emp])])
 (.fg [2, 3, 4] (.seq (.ops false [.u 8 (.ld none 4 true (.t 2)), .u 9 (.call f0 [(.t 8)]), .m 7 (.t 9), .u 10 (.ext 0 (.t 7)), .u 11 (.ext 1 (.t 7)), .u 5 (.alloc [(.lit (.bool false)), .emp, .emp]), .u 6 (.alloc [(.lit (.bool false)), .emp, .emp]), .n (.st none 3 (.t 5) (.t 10)), .n (.st none 3 (.t 6) (.t 11))])
 (.fg [3, 4, 5, 6] (.seq (.ops true [.u 12 (.ld none 3 true (.t 5)), .u 13 (.fa 0 (.t 3)), .u 14 (.ld none 3 true (.t 13)), .u 15 (.call f1 [(.t 12), (.t 14)]), .u 16 (.ld none 3 true (.t 6)), .u 17 (.fa 3 (.t 3)), .u 18 (.ld none 3 true (.t 17)), .u 19 (.call f1 [(.t 16), (.t 18)]), .u 20 (.call f2 [(.t 15), (.t 19)]), .u 21 (.ld none 3 true (.t 6)), .u 22 (.fa 0 (.t 3)), .u 23 (.ld none 3 true (.t 22)), .u 24 (.call f1 [(.t 21), (.t 23)]), .u 25 (.ld none 3 true (.t 5)), .u 26 (.fa 3 (.t 3)), .u 27 (.ld none 3 true (.t 26)), .u 28 (.call f1 [(.t 25), (.t 27)]), .u 29 (.call f3 [(.t 24), (.t 28)]), .u 30 (.build [.x 3 (.t 20), .x 3 (.t 29)]), .n (.st none 6 (.t 4) (.t 30))])
 .ret)))))
def ac_pose_Apply (f0 f1 f2 f3 tE : Nat) : AC := (.seq (.ops false [.u 2 (.box 10 (.t 0)), .u 3 (.box 6 (.t 1)), .u 4 (.alloc [(.lit (.bool false)), .emp, .emp, (.lit (.bool false)), .emp, .emp]), .m 5 (.c (.one (.lit .nilIface)))])
 (.fg [2, 3, 4] (.seq (.seq (.ops false [.u 8 (.ld none 10 true (.t 2)), .u 9 (.call f0 [(.t 8)]), .u 10 (.un .not (.t 9)), .m 11 (.t 10), .w 12 11 false (.ld none 6 true (.t 3)), .w 13 11 false (.call f1 [(.t 12)]), .w 14 11 false (.un .not (.t 13)), .u 15 (.pick (.t 11) .tr (.t 14))])
 (.fg [2, 3, 4, 15] (.cond (.t 15) (.seq (.ops false [.u 16 (.build [.z [(.lit (.bool false)), .emp, .emp, (.lit (.bool false)), .emp, .emp]]), .u 17 (.iface tE (.i 2)), .n (.st none 6 (.t 4) (.t 16)), .m 5 (.t 17)])
 .ret) .skip)))
 (.fg [2, 3, 4] (.seq (.ops false [.u 19 (.fa 0 (.t 2)), .u 20 (.ld none 4 true (.t 19)), .u 21 (.ld none 6 true (.t 3)), .u 22 (.call f2 [(.t 20), (.t 21)]), .m 18 (.t 22), .u 23 (.ext 0 (.t 18)), .u 24 (.ext 1 (.t 18)), .u 6 (.alloc [(.lit (.bool false)), .emp, .emp, (.lit (.bool false)), .emp, .emp]), .n (.st none 6 (.t 6) (.t 23)), .m 7 (.t 24)])
 (.fg [2, 4, 6, 7] (.seq (.seq (.ops false [.m 25 (.t 7), .u 26 (.binn .neq (.t 25) (.c (.one (.lit .nilIface))))])
 (.fg [2, 4, 6, 7, 26] (.cond (.t 26) (.seq (.ops false [.u 27 (.build [.z [(.lit (.bool false)), .emp, .emp, (.lit (.bool false)), .emp, .emp]]), .m 28 (.t 7), .n (.st none 6 (.t 4) (.t 27)), .m 5 (.t 28)])
 .ret) .skip)))
 (.fg [2, 4, 6] (.seq (.ops false [.u 29 (.ld none 6 true (.t 6)), .u 30 (.fa 4 (.t 2)), .u 31 (.ld none 6 true (.t 30)), .u 32 (.call f3 [(.t 29), (.t 31)]), .n (.st none 6 (.t 4) (.t 32)), .m 5 (.c (.one (.lit .nilIface)))])
 .ret)))))))))
def ac_linkworkref17_Apply (f0 f1 : Nat) : AC := (.seq (.ops false [.u 2 (.box 10 (.t 0)), .u 3 (.box 6 (.t 1)), .u 4 (.alloc [(.lit (.bool false)), .emp, .emp, (.lit (.bool false)), .emp, .emp])])
 (.fg [2, 3, 4] (.seq (.ops true [.u 5 (.fa 0 (.t 2)), .u 6 (.ld none 4 true (.t 5)), .u 7 (.ld none 6 true (.t 3)), .u 8 (.call f0 [(.t 6), (.t 7)]), .u 9 (.fa 4 (.t 2)), .u 10 (.ld none 6 true (.t 9)), .u 11 (.call f1 [(.t 8), (.t 10)]), .n (.st none 6 (.t 4) (.t 11))])
 .ret)))
theorem tcos_sound (hΓ : Holds P Γ) {f fk fd tE : Nat} (hk : Γ fk = .dat false (tcheck_G tE)) (hd : Γ fd = .dat false tdir_G) (hc : check P f = some (19, (ac_turn_Cos fk fd).strip, [.cell 2 3 true, .tmp 3])) : Sound P f (.dat false (tcos_G tE)) := by
 refine sound_dat hc (tcos_good tE) hΓ (fun args K hcl hfi hG => ?_)
 match args, hG with
 | [a], hG =>
  obtain ⟨t, rfl, ht, hl, hK⟩ := hG
  refine ⟨by simp, ?_⟩
  have e2 : errV tE 2 = .one (.lit (.iface tE (.int .i64 2))) := errV_s tE (by decide)
  rcases tchk_02 t with h | h
  ·rw [h, if_pos rfl, errV_0] at hK
   simp only [go_sem, ac_turn_Cos, ac_turn_Sin, hk, hd, tA, tC, ht, mk_eta, h, errV_0]
   exact ⟨by omega, by omega, hK⟩
  ·rw [h, if_neg (by decide), e2, rQ_eq, rcan_zero] at hK
   simp only [go_sem, ac_turn_Cos, ac_turn_Sin, hk, hd, tA, tC, ht, mk_eta, h, e2]
   exact ⟨by omega, hK⟩
theorem tsin_sound (hΓ : Holds P Γ) {f fk fd tE : Nat} (hk : Γ fk = .dat false (tcheck_G tE)) (hd : Γ fd = .dat false tdir_G) (hc : check P f = some (19, (ac_turn_Sin fk fd).strip, [.cell 2 3 true, .tmp 3])) : Sound P f (.dat false (tsin_G tE)) := by
 refine sound_dat hc (tsin_good tE) hΓ (fun args K hcl hfi hG => ?_)
 match args, hG with
 | [a], hG =>
  obtain ⟨t, rfl, ht, hl, hK⟩ := hG
  refine ⟨by simp, ?_⟩
  have e2 : errV tE 2 = .one (.lit (.iface tE (.int .i64 2))) := errV_s tE (by decide)
  rcases tchk_02 t with h | h
  ·rw [h, if_pos rfl, errV_0] at hK
   simp only [go_sem, ac_turn_Cos, ac_turn_Sin, hk, hd, tA, tC, ht, mk_eta, h, errV_0]
   exact ⟨by omega, by omega, hK⟩
  ·rw [h, if_neg (by decide), e2, rQ_eq, rcan_zero] at hK
   simp only [go_sem, ac_turn_Cos, ac_turn_Sin, hk, hd, tA, tC, ht, mk_eta, h, e2]
   exact ⟨by omega, hK⟩
theorem pdir_sound (hΓ : Holds P Γ) {f fk fc fs tE : Nat} (hk : Γ fk = .dat false (tcheck_G tE)) (hc' : Γ fc = .dat false (tcos_G tE)) (hs : Γ fs = .dat false (tsin_G tE)) (hc : check P f = some (29, (ac_pose_Direction fk fc fs tE).strip, [.cell 2 3 true, .cell 3 3 true, .tmp 4])) : Sound P f (.dat false (pdir_G tE)) := by
 refine sound_dat hc (pdir_good tE) hΓ (fun args K hcl hfi hG => ?_)
 match args, hG with
 | [a], hG =>
  obtain ⟨t, rfl, ht, hl, hK⟩ := hG
  refine ⟨by simp, ?_⟩
  have e2 : errV tE 2 = .one (.lit (.iface tE (.int .i64 2))) := errV_s tE (by decide)
  rcases tchk_02 t with h | h
  ·rw [h, if_pos rfl, if_pos rfl, errV_0] at hK
   simp only [go_sem, ac_pose_Direction, hk, hc', hs, tA, tC, ht, mk_eta, h, errV_0]
   exact ⟨by omega, by omega, by omega, hK⟩
  ·rw [h, if_neg (by decide), if_neg (by decide), e2, rQ_eq, rcan_zero] at hK
   simp only [go_sem, ac_pose_Direction, hk, hc', hs, tA, tC, ht, mk_eta, h, e2]
   exact ⟨by omega, hK⟩
theorem prot_sound (hΓ : Holds P Γ) {f fd fm fs fa tE : Nat} (hd : Γ fd = .dat false (pdir_G tE)) (hm : Γ fm = .dat false rmul_G) (hs : Γ fs = .dat false rsub_G) (ha : Γ fa = .dat false radd_G) (hc : check P f = some (38, (ac_pose_rotate fd fm fs fa).strip, [.cell 4 6 true, .tmp 5])) : Sound P f (.dat false (prot_G tE)) := by
 refine sound_dat hc (prot_good tE) hΓ (fun args K hcl hfi hG => ?_)
 match args, hG with
 | [a, b], hG =>
  obtain ⟨t, rfl, ht, q, rfl, hq, hl, hl', hK⟩ := hG
  refine ⟨by simp, ?_⟩
  have e2 : errV tE 2 = .one (.lit (.iface tE (.int .i64 2))) := errV_s tE (by decide)
  rcases tchk_02 t with h | h
  ·skip
   have r1 := rz_rv ht
   have q1 := rz_rv hq.1
   have q2 := rz_rv hq.2
   obtain ⟨l1, l2⟩ := al1 hl'
   have cc := rz_cos (tv t)
   have ss := rz_sin (tv t)
   have hrt : rz (tv t).1 = rz (rv t.1) := rfl
   obtain ⟨c, hcc⟩ : ∃ c, cosQ (tv t) = c := ⟨_, rfl⟩
   obtain ⟨s, hss⟩ : ∃ s, sinQ (tv t) = s := ⟨_, rfl⟩
   rw [hcc] at cc
   rw [hss] at ss
   have m1 := rz_mul c (rv q.1)
   have m2 := rz_mul s (rv q.2)
   have m3 := rz_mul s (rv q.1)
   have m4 := rz_mul c (rv q.2)
   have er : rotQ (tv t) (av q) = (c * rv q.1 - s * rv q.2, s * rv q.1 + c * rv q.2) := by unfold rotQ; rw [hcc, hss]; rfl
   rw [h, if_pos rfl, errV_0, er] at hK
   simp only [go_sem, ac_pose_rotate, hd, hm, hs, ha, tA, tC, aC_eq, ht, hq.1, hq.2, mk_eta, h, errV_0, hcc, hss]
   exact ⟨by omega, by omega, by omega, by omega, by omega, by omega, by omega, by omega, by omega, by omega, by omega, by omega, by omega, hK⟩
  ·rw [h, if_neg (by decide), e2, pQ_eq, rcan_zero] at hK
   simp only [go_sem, ac_pose_rotate, hd, hm, hs, ha, tA, tC, aC_eq, ht, mk_eta, h, e2]
   exact ⟨by omega, hK⟩
theorem rrot_sound (hΓ : Holds P Γ) {f fd fm fs fa : Nat} (hd : Γ fd = .dat false tdir_G) (hm : Γ fm = .dat false rmul_G) (hs : Γ fs = .dat false rsub_G) (ha : Γ fa = .dat false radd_G) (hc : check P f = some (31, (ac_linkworkref17_Rotate fd fm fs fa).strip, [.cell 4 6 true])) : Sound P f (.dat false rrot_G) := by
 refine sound_dat hc rrot_good hΓ (fun args K hcl hfi hG => ?_)
 match args, hG with
 | [a, b], hG =>
  obtain ⟨t, rfl, ht, q, rfl, hq, hl, hl', hK⟩ := hG
  refine ⟨by simp, ?_⟩
  have r1 := rz_rv ht
  have q1 := rz_rv hq.1
  have q2 := rz_rv hq.2
  obtain ⟨l1, l2⟩ := al1 hl'
  have cc := rz_cos (tv t)
  have ss := rz_sin (tv t)
  have hrt : rz (tv t).1 = rz (rv t.1) := rfl
  obtain ⟨c, hcc⟩ : ∃ c, cosQ (tv t) = c := ⟨_, rfl⟩
  obtain ⟨s, hss⟩ : ∃ s, sinQ (tv t) = s := ⟨_, rfl⟩
  rw [hcc] at cc
  rw [hss] at ss
  have m1 := rz_mul c (rv q.1)
  have m2 := rz_mul s (rv q.2)
  have m3 := rz_mul s (rv q.1)
  have m4 := rz_mul c (rv q.2)
  have er : rotQ (tv t) (av q) = (c * rv q.1 - s * rv q.2, s * rv q.1 + c * rv q.2) := by unfold rotQ; rw [hcc, hss]; rfl
  rw [er] at hK
  simp only [go_sem, ac_linkworkref17_Rotate, hd, hm, hs, ha, tA, tC, aC_eq, ht, hq.1, hq.2, mk_eta, hcc, hss]
  exact ⟨by omega, by omega, by omega, by omega, by omega, by omega, by omega, by omega, by omega, by omega, by omega, by omega, by omega, hK⟩
theorem rapp_sound (hΓ : Holds P Γ) {f fr fp : Nat} (hr : Γ fr = .dat false rrot_G) (hp' : Γ fp = .dat false pplus_G) (hc : check P f = some (12, (ac_linkworkref17_Apply fr fp).strip, [.cell 4 6 true])) : Sound P f (.dat false rapp_G) := by
 refine sound_dat hc rapp_good hΓ (fun args K hcl hfi hG => ?_)
 match args, hG with
 | [a, b], hG =>
  obtain ⟨p, rfl, hp, q, rfl, hq, hl, hl', hK⟩ := hG
  refine ⟨by simp, ?_⟩
  obtain ⟨l1, l2⟩ := pl1 hl
  have r1 := rz_rv hp.1
  have q1 := av_le hq
  have z := zq_rot (tv p.1) (av q)
  have e1 : rz (tv p.1).1 = rz (rv p.1.1) := rfl
  have e2 : al (rcan (rotQ (tv p.1) (av q)).1, rcan (rotQ (tv p.1) (av q)).2) = zq (rotQ (tv p.1) (av q)) := rfl
  simp only [go_sem, ac_linkworkref17_Apply, hr, hp', poA, pC, aC_eq, hp.1, hp.2, hq, mk_eta, av_mk, rv_rcan]
  exact ⟨by omega, by omega, by rw [e2]; omega, by omega, hK⟩
theorem papp_sound (hΓ : Holds P Γ) {f fv fw fr fp tE : Nat} (hv : Γ fv = .dat true pvld_G) (hw : Γ fw = .dat true pvalid_G) (hr : Γ fr = .dat false (prot_G tE)) (hp' : Γ fp = .dat false pplus_G) (hc : check P f = some (33, (ac_pose_Apply fv fw fr fp tE).strip, [.cell 4 6 true, .tmp 5])) : Sound P f (.dat false (papp_G tE)) := by
 refine sound_dat hc (papp_good tE) hΓ (fun args K hcl hfi hG => ?_)
 match args, hG with
 | [a, b], hG =>
  obtain ⟨p, rfl, hp, q, rfl, hq, hl, hl', hK⟩ := hG
  refine ⟨by simp, ?_⟩
  obtain ⟨l1, l2⟩ := pl1 hl
  have e8 : errV tE 2 = .one (.lit (.iface tE (.int .i64 2))) := errV_s tE (by decide)
  unfold aok at hK
  cases h1 : pvld p with
  | false =>
   rw [h1, Bool.false_and, if_neg (by decide), if_neg (by decide), e8, pQ_eq, rcan_zero] at hK
   simp only [go_sem, ac_pose_Apply, hv, hw, poA, pC, aC_eq, hp, mk_eta, h1]
   exact ⟨by omega, hK⟩
  | true =>
   cases h2 : avld q with
   | false =>
    rw [h1, h2, Bool.true_and, if_neg (by decide), if_neg (by decide), e8, pQ_eq, rcan_zero] at hK
    simp only [go_sem, ac_pose_Apply, hv, hw, poA, pC, aC_eq, hp, hq, mk_eta, h1, h2]
    exact ⟨by omega, by omega, hK⟩
   | true =>
    rw [h1, h2, Bool.true_and, if_pos rfl, if_pos rfl, errV_0] at hK
    have ht : tchk p.1 = 0 := by
     unfold pvld at h1
     rw [Bool.and_eq_true, decide_eq_true_eq] at h1
     exact h1.1
    have r1 := rz_rv hp.1
    have q1 := av_le hq
    have z := zq_rot (tv p.1) (av q)
    have e1 : rz (tv p.1).1 = rz (rv p.1.1) := rfl
    have e2 : al (rcan (rotQ (tv p.1) (av q)).1, rcan (rotQ (tv p.1) (av q)).2) = zq (rotQ (tv p.1) (av q)) := rfl
    simp only [go_sem, ac_pose_Apply, hv, hw, hr, hp', poA, pC, aC_eq, hp, hp.1, hp.2, hq, mk_eta, h1, h2, ht, errV_0, av_mk, rv_rcan]
    exact ⟨by omega, by omega, by omega, by omega, by rw [e2]; omega, by omega, hK⟩
end Go.Abs
end
section
set_option linter.unusedVariables false
set_option linter.unusedSimpArgs false
set_option maxRecDepth 100000
namespace Go.Num
def inA (y : Rat) (x : Arc) : Bool := decide (rv x.1 ≤ y) && decide (y < rv x.2)
def idxOf (y : Rat) (l : List Arc) : Int := match l.findIdx? (inA y) with | some i => i | none => -1
end Go.Num
namespace Go.Abs
open Go.Num
variable {P : Program} {Γ : Nat → Spec}
def pA (y : R) : AV := .one (.ref [cb y, cn y, cd y])
def kA (f : Nat) (y : R) : AV := .one (.clo f [.ref [cb y, cn y, cd y]])
theorem pA_inj (x y : R) (h : pA x = pA y) : x = y := rA_inj x y (by simpa [pA, rA] using h)
theorem kA_inj (f : Nat) (x y : R) (h : kA f x = kA f y) : x = y := rA_inj x y (by simpa [kA, rA] using h)
def onP (k : R → Prop) (a : AV) : Prop := onE pA (fun x => WLR x ∧ k x) a
@[congr] theorem onP_cg {k : R → Prop} {a a' : AV} (h : a = a') : onP k a = onP k a' := by subst h; rfl
theorem onP_e (k : R → Prop) (x : R) : onP k (.one (.ref [cb x, cn x, cd x])) = (WLR x ∧ k x) := onE_e pA_inj (fun x => WLR x ∧ k x) x
def onKl (f : Nat) (k : R → Prop) (a : AV) : Prop := onE (kA f) (fun x => WLR x ∧ k x) a
@[congr] theorem onKl_cg {f : Nat} {k : R → Prop} {a a' : AV} (h : a = a') : onKl f k a = onKl f k a' := by subst h; rfl
theorem onKl_e (f : Nat) (k : R → Prop) (x : R) : onKl f k (.one (.clo f [.ref [cb x, cn x, cd x]])) = (WLR x ∧ k x) := onE_e (kA_inj f) (fun x => WLR x ∧ k x) x
attribute [go_sem] onP_e onKl_e
attribute [go_sem ↓] onP_e onKl_e
theorem clean_ref3 (y : R) : CleanL [cb y, cn y, cd y] := by
 intro c hc
 simp only [List.mem_cons, List.not_mem_nil, or_false] at hc
 rcases hc with rfl | rfl | rfl
 ·exact of_eq_true (clean_cb _)
 ·exact of_eq_true (clean_cn _)
 ·exact of_eq_true (clean_cd _)
def chas1_G (l : List AV) (K : AV → Prop) : Prop :=
 match l with
 | [a, b] => onA (fun x => onP (fun y => al x ≤ 4294967296 ∧ rl y ≤ 4294967296 ∧ K (.one (.lit (.bool (inA (rv y) x))))) b) a
 | _ => False
theorem chas1_Ge (a b : AV) (K : AV → Prop) : chas1_G [a, b] K = (onA (fun x => onP (fun y => al x ≤ 4294967296 ∧ rl y ≤ 4294967296 ∧ K (.one (.lit (.bool (inA (rv y) x))))) b) a) := propext Iff.rfl
@[congr] theorem chas1_Gc {K : AV → Prop} {l l' : List AV} (h : l = l') : chas1_G l K = chas1_G l' K := by subst h; rfl
attribute [go_sem] chas1_Ge
attribute [go_sem ↓] chas1_Ge
def cidx_G (fc : Nat) (l : List AV) (K : AV → Prop) : Prop :=
 match l with
 | [a, c] => onAs (fun l => onKl fc (fun y => okAs 4294967296 l ∧ rl y ≤ 4294967296 ∧ K (.one (.lit (.int .i64 (idxOf (rv y) l))))) c) a
 | _ => False
theorem cidx_Ge (fc : Nat) (a c : AV) (K : AV → Prop) : cidx_G fc [a, c] K = (onAs (fun l => onKl fc (fun y => okAs 4294967296 l ∧ rl y ≤ 4294967296 ∧ K (.one (.lit (.int .i64 (idxOf (rv y) l))))) c) a) := propext Iff.rfl
@[congr] theorem cidx_Gc (fc : Nat) {K : AV → Prop} {l l' : List AV} (h : l = l') : cidx_G fc l K = cidx_G fc l' K := by subst h; rfl
attribute [go_sem] cidx_Ge
attribute [go_sem ↓] cidx_Ge
def ccont_G (fc : Nat) (l : List AV) (K : AV → Prop) : Prop :=
 match l with
 | [a, c] => onAs (fun l => onKl fc (fun y => okAs 4294967296 l ∧ rl y ≤ 4294967296 ∧ K (.one (.lit (.bool (l.any (inA (rv y))))))) c) a
 | _ => False
theorem ccont_Ge (fc : Nat) (a c : AV) (K : AV → Prop) : ccont_G fc [a, c] K = (onAs (fun l => onKl fc (fun y => okAs 4294967296 l ∧ rl y ≤ 4294967296 ∧ K (.one (.lit (.bool (l.any (inA (rv y))))))) c) a) := propext Iff.rfl
@[congr] theorem ccont_Gc (fc : Nat) {K : AV → Prop} {l l' : List AV} (h : l = l') : ccont_G fc l K = ccont_G fc l' K := by subst h; rfl
attribute [go_sem] ccont_Ge
attribute [go_sem ↓] ccont_Ge
def cHas_G (tE : Nat) (l : List AV) (K : AV → Prop) : Prop :=
 match l with
 | [a, b] => onAs (fun l => onR (fun y => okAs 4294967296 l ∧ rl y ≤ 1000000000 ∧ K (.tup [.one (.lit (.bool (decide (chk [l] = 0) && (vldR y && l.any (inA (frac (rv y))))))), errV tE (if chk [l] = 0 then (if vldR y then 0 else 3) else chk [l])])) b) a
 | _ => False
theorem cHas_Ge (tE : Nat) (a b : AV) (K : AV → Prop) : cHas_G tE [a, b] K = (onAs (fun l => onR (fun y => okAs 4294967296 l ∧ rl y ≤ 1000000000 ∧ K (.tup [.one (.lit (.bool (decide (chk [l] = 0) && (vldR y && l.any (inA (frac (rv y))))))), errV tE (if chk [l] = 0 then (if vldR y then 0 else 3) else chk [l])])) b) a) := propext Iff.rfl
@[congr] theorem cHas_Gc (tE : Nat) {K : AV → Prop} {l l' : List AV} (h : l = l') : cHas_G tE l K = cHas_G tE l' K := by subst h; rfl
attribute [go_sem] cHas_Ge
attribute [go_sem ↓] cHas_Ge
end Go.Abs
end
section
set_option linter.unusedVariables false
set_option linter.unusedSimpArgs false
set_option maxRecDepth 100000
namespace Go.Num
def longR (x : R) : Bool := decide (4 < x.2.1.length + x.2.2.length)
def largeL (l : List Arc) : Bool := if 20 < l.length then (decide (l.length ≤ 64) || decide (200 < l.length)) else l.any fun x => longR x.1 || longR x.2
def validL (l : List Arc) : Bool := !largeL l && decide (chk1 l = 0)
end Go.Num
namespace Go.Abs
open Go.Num
variable {P : Program} {Γ : Nat → Spec}
def rcheck_G (l : List AV) (K : AV → Prop) : Prop :=
 match l with
 | [a] => onAs (fun l => okAs 1073741824 l ∧ K (.one (.lit (.int .i64 (chk1 l : Nat))))) a
 | _ => False
theorem rcheck_Ge (a : AV) (K : AV → Prop) : rcheck_G [a] K = (onAs (fun l => okAs 1073741824 l ∧ K (.one (.lit (.int .i64 (chk1 l : Nat))))) a) := propext Iff.rfl
@[congr] theorem rcheck_Gc {K : AV → Prop} {l l' : List AV} (h : l = l') : rcheck_G l K = rcheck_G l' K := by subst h; rfl
attribute [go_sem] rcheck_Ge
attribute [go_sem ↓] rcheck_Ge
def rsame_G (l : List AV) (K : AV → Prop) : Prop :=
 match l with
 | [a, b] => onAs (fun l => onAs (fun m => okAs 1073741824 l ∧ okAs 1073741824 m ∧ K (.one (.lit (.bool (decide (vals l = vals m)))))) b) a
 | _ => False
theorem rsame_Ge (a b : AV) (K : AV → Prop) : rsame_G [a, b] K = (onAs (fun l => onAs (fun m => okAs 1073741824 l ∧ okAs 1073741824 m ∧ K (.one (.lit (.bool (decide (vals l = vals m)))))) b) a) := propext Iff.rfl
@[congr] theorem rsame_Gc {K : AV → Prop} {l l' : List AV} (h : l = l') : rsame_G l K = rsame_G l' K := by subst h; rfl
attribute [go_sem] rsame_Ge
attribute [go_sem ↓] rsame_Ge
def rfrac_G (l : List AV) (K : AV → Prop) : Prop :=
 match l with
 | [a] => onR (fun x => rl x ≤ 1000000000 ∧ K (.agg [cb (rcan (frac (rv x))), cn (rcan (frac (rv x))), cd (rcan (frac (rv x)))])) a
 | _ => False
theorem rfrac_Ge (a : AV) (K : AV → Prop) : rfrac_G [a] K = (onR (fun x => rl x ≤ 1000000000 ∧ K (.agg [cb (rcan (frac (rv x))), cn (rcan (frac (rv x))), cd (rcan (frac (rv x)))])) a) := propext Iff.rfl
@[congr] theorem rfrac_Gc {K : AV → Prop} {l l' : List AV} (h : l = l') : rfrac_G l K = rfrac_G l' K := by subst h; rfl
attribute [go_sem] rfrac_Ge
attribute [go_sem ↓] rfrac_Ge
def rpart_G (l : List AV) (K : AV → Prop) : Prop :=
 match l with
 | [a, b] => asInt (fun k n => asInt (fun k' d => k = .i64 ∧ k' = .i64 ∧ (-9223372036854775808 ≤ n ∧ n ≤ 9223372036854775807) ∧ (-9223372036854775808 ≤ d ∧ d ≤ 9223372036854775807) ∧ d ≠ 0 ∧ K (.agg [cb (rcan (Rat.divInt n d)), cn (rcan (Rat.divInt n d)), cd (rcan (Rat.divInt n d))])) b) a
 | _ => False
theorem rpart_Ge (a b : AV) (K : AV → Prop) : rpart_G [a, b] K = (asInt (fun k n => asInt (fun k' d => k = .i64 ∧ k' = .i64 ∧ (-9223372036854775808 ≤ n ∧ n ≤ 9223372036854775807) ∧ (-9223372036854775808 ≤ d ∧ d ≤ 9223372036854775807) ∧ d ≠ 0 ∧ K (.agg [cb (rcan (Rat.divInt n d)), cn (rcan (Rat.divInt n d)), cd (rcan (Rat.divInt n d))])) b) a) := propext Iff.rfl
@[congr] theorem rpart_Gc {K : AV → Prop} {l l' : List AV} (h : l = l') : rpart_G l K = rpart_G l' K := by subst h; rfl
attribute [go_sem] rpart_Ge
attribute [go_sem ↓] rpart_Ge
def rlong_G (l : List AV) (K : AV → Prop) : Prop :=
 match l with
 | [a] => onR (fun x => rl x ≤ 4294967296 ∧ K (.one (.lit (.bool (longR x))))) a
 | _ => False
theorem rlong_Ge (a : AV) (K : AV → Prop) : rlong_G [a] K = (onR (fun x => rl x ≤ 4294967296 ∧ K (.one (.lit (.bool (longR x))))) a) := propext Iff.rfl
@[congr] theorem rlong_Gc {K : AV → Prop} {l l' : List AV} (h : l = l') : rlong_G l K = rlong_G l' K := by subst h; rfl
attribute [go_sem] rlong_Ge
attribute [go_sem ↓] rlong_Ge
def rlarge_G (l : List AV) (K : AV → Prop) : Prop :=
 match l with
 | [a] => onAs (fun l => okAs 1073741824 l ∧ K (.one (.lit (.bool (largeL l))))) a
 | _ => False
theorem rlarge_Ge (a : AV) (K : AV → Prop) : rlarge_G [a] K = (onAs (fun l => okAs 1073741824 l ∧ K (.one (.lit (.bool (largeL l))))) a) := propext Iff.rfl
@[congr] theorem rlarge_Gc {K : AV → Prop} {l l' : List AV} (h : l = l') : rlarge_G l K = rlarge_G l' K := by subst h; rfl
attribute [go_sem] rlarge_Ge
attribute [go_sem ↓] rlarge_Ge
def rvalidL_G (l : List AV) (K : AV → Prop) : Prop :=
 match l with
 | [a] => onAs (fun l => okAs 1073741824 l ∧ K (.one (.lit (.bool (validL l))))) a
 | _ => False
theorem rvalidL_Ge (a : AV) (K : AV → Prop) : rvalidL_G [a] K = (onAs (fun l => okAs 1073741824 l ∧ K (.one (.lit (.bool (validL l))))) a) := propext Iff.rfl
@[congr] theorem rvalidL_Gc {K : AV → Prop} {l l' : List AV} (h : l = l') : rvalidL_G l K = rvalidL_G l' K := by subst h; rfl
attribute [go_sem] rvalidL_Ge
attribute [go_sem ↓] rvalidL_Ge
def climit_G (tE : Nat) (l : List AV) (K : AV → Prop) : Prop :=
 match l with
 | [a] => onAs (fun l => K (.tup [.one (.slice ((if 64 < l.length then [] else l).map aC)), errV tE (if 64 < l.length then 4 else 0)])) a
 | _ => False
theorem climit_Ge (tE : Nat) (a : AV) (K : AV → Prop) : climit_G tE [a] K = (onAs (fun l => K (.tup [.one (.slice ((if 64 < l.length then [] else l).map aC)), errV tE (if 64 < l.length then 4 else 0)])) a) := propext Iff.rfl
@[congr] theorem climit_Gc (tE : Nat) {K : AV → Prop} {l l' : List AV} (h : l = l') : climit_G tE l K = climit_G tE l' K := by subst h; rfl
attribute [go_sem] climit_Ge
attribute [go_sem ↓] climit_Ge
end Go.Abs
end
section
set_option linter.unusedVariables false
set_option linter.unusedSimpArgs false
set_option maxRecDepth 100000
namespace Go.Num
def sh1 (by' : Rat) (a : Q2) : List Q2 :=
 let f := frac (a.1 + by')
 let t := f + (a.2 - a.1)
 if 1 < t then (0, t - 1) :: (if f < 1 then [(f, 1)] else []) else (if f < t then [(f, t)] else [])
def shL (by' : Rat) (l : List Q2) : List Q2 := l.flatMap (sh1 by')
def lim64 (l : List Q2) : List Q2 := if 64 < l.length then [] else l
def code64 (l : List Q2) : Nat := if 64 < l.length then 4 else 0
def shOut (l : List Arc) (y : R) : List Q2 := if chk [l] = 0 ∧ vldR y = true then lim64 (nrm (shL (rv y) (vals l))) else []
def shCode (l : List Arc) (y : R) : Nat := if chk [l] = 0 then (if vldR y = true then code64 (nrm (shL (rv y) (vals l))) else 3) else chk [l]
end Go.Num
namespace Go.Abs
open Go.Num
variable {P : Program} {Γ : Nat → Spec}
def cShift_G (tE m : Nat) (l : List AV) (K : AV → Prop) : Prop :=
 match l with
 | [a, b] => onAs (fun l => onR (fun y => (chk [l] = 0 → 2 * l.length ≤ m) ∧ okAs 10000000 l ∧ rl y ≤ 10000000 ∧ K (.tup [.one (.slice (((shOut l y).map acan).map aC)), errV tE (shCode l y)])) b) a
 | _ => False
theorem cShift_Ge (tE m : Nat) (a b : AV) (K : AV → Prop) : cShift_G tE m [a, b] K = (onAs (fun l => onR (fun y => (chk [l] = 0 → 2 * l.length ≤ m) ∧ okAs 10000000 l ∧ rl y ≤ 10000000 ∧ K (.tup [.one (.slice (((shOut l y).map acan).map aC)), errV tE (shCode l y)])) b) a) := propext Iff.rfl
@[congr] theorem cShift_Gc (tE m : Nat) {K : AV → Prop} {l l' : List AV} (h : l = l') : cShift_G tE m l K = cShift_G tE m l' K := by subst h; rfl
attribute [go_sem] cShift_Ge
attribute [go_sem ↓] cShift_Ge
end Go.Abs
end
section
set_option linter.unusedVariables false
namespace Go.Num
end Go.Num
end
section
set_option linter.unusedVariables false
set_option linter.unusedSimpArgs false
set_option maxRecDepth 100000
namespace Go.Num
theorem WLA_cans (l : List Q2) : ∀ z ∈ l.map acan, WLA z := fun z hz => by
 obtain ⟨q, _, rfl⟩ := List.mem_map.1 hz
 exact WLA_can q
end Go.Num
namespace Go.Abs
open Go.Num
variable {P : Program} {Γ : Nat → Spec}
theorem onAs_1 (k : List Arc → Prop) (x y : R) : onAs k (.one (.slice [[cb x, cn x, cd x, cb y, cn y, cd y]])) = ((∀ z ∈ [(x, y)], WLA z) ∧ k [(x, y)]) := onAs_e k [(x, y)]
theorem onAs_2 (k : List Arc → Prop) (x y x' y' : R) : onAs k (.one (.slice [[cb x, cn x, cd x, cb y, cn y, cd y], [cb x', cn x', cd x', cb y', cn y', cd y']])) = ((∀ z ∈ [(x, y), (x', y')], WLA z) ∧ k [(x, y), (x', y')]) := onAs_e k [(x, y), (x', y')]
theorem onAs_x1 (k : List Arc → Prop) (x : Arc) : onAs k (.one (.slice [aC x])) = ((∀ z ∈ [x], WLA z) ∧ k [x]) := onAs_e k [x]
theorem onAs_x2 (k : List Arc → Prop) (x y : Arc) : onAs k (.one (.slice [aC x, aC y])) = ((∀ z ∈ [x, y], WLA z) ∧ k [x, y]) := onAs_e k [x, y]
theorem onAs_z2 (k : List Arc → Prop) (y x' y' : R) : onAs k (.one (.slice [[.lit (.bool false), .slice [], .slice [], cb y, cn y, cd y], [cb x', cn x', cd x', cb y', cn y', cd y']])) = ((∀ z ∈ [(rcan 0, y), (x', y')], WLA z) ∧ k [(rcan 0, y), (x', y')]) := by
 rw [rcan_zero]; exact onAs_e k [((false, [], []), y), (x', y')]
attribute [go_sem] onAs_1 onAs_2 onAs_x1 onAs_x2 onAs_z2
attribute [go_sem ↓] onAs_1 onAs_2 onAs_x1 onAs_x2 onAs_z2
def lawake_G (l : List AV) (K : AV → Prop) : Prop :=
 match l with
 | [] => K (.one (.lit (.bool true)))
 | _ => False
theorem lawake_Ge (K : AV → Prop) : lawake_G [] K = (K (.one (.lit (.bool true)))) := propext Iff.rfl
@[congr] theorem lawake_Gc {K : AV → Prop} {l l' : List AV} (h : l = l') : lawake_G l K = lawake_G l' K := by subst h; rfl
attribute [go_sem] lawake_Ge
attribute [go_sem ↓] lawake_Ge
end Go.Abs
end
section
set_option linter.unusedVariables false
namespace Go.Num
instance (x : Rat) (a : Q2) : Decidable (mem x a) := by unfold mem; infer_instance
instance (x : Rat) (l : List Q2) : Decidable (memL x l) := by unfold memL; infer_instance
end Go.Num
end
section
set_option linter.unusedVariables false
set_option linter.unusedSimpArgs false
set_option maxRecDepth 100000
namespace Go.Num
def not1 (f t : Rat) : List Q2 := if f < t then [(f, t)] else []
def notGo : Rat → List Q2 → List Q2
 | f, [] => not1 f 1
 | f, a :: l => not1 f a.1 ++ notGo a.2 l
def notL (l : List Q2) : List Q2 := notGo 0 l
def meet1 (x y : Q2) : List Q2 := not1 (mxQ x.1 y.1) (mnQ x.2 y.2)
def meetL (a b : List Q2) : List Q2 := a.flatMap fun x => b.flatMap fun y => meet1 x y
end Go.Num
namespace Go.Abs
open Go.Num
variable {P : Program} {Γ : Nat → Spec}
def cnot_G (l : List AV) (K : AV → Prop) : Prop :=
 match l with
 | [a] => onAs (fun l => l.length ≤ 1000 ∧ okAs 1000000000 l ∧ K (.one (.slice (((notL (vals l)).map acan).map aC)))) a
 | _ => False
theorem cnot_Ge (a : AV) (K : AV → Prop) : cnot_G [a] K = (onAs (fun l => l.length ≤ 1000 ∧ okAs 1000000000 l ∧ K (.one (.slice (((notL (vals l)).map acan).map aC)))) a) := propext Iff.rfl
@[congr] theorem cnot_Gc {K : AV → Prop} {l l' : List AV} (h : l = l') : cnot_G l K = cnot_G l' K := by subst h; rfl
attribute [go_sem] cnot_Ge
attribute [go_sem ↓] cnot_Ge
def cmeet_G (l : List AV) (K : AV → Prop) : Prop :=
 match l with
 | [a, b] => onAs (fun l => onAs (fun m => l.length ≤ 1000 ∧ m.length ≤ 1000 ∧ okAs 1000000000 l ∧ okAs 1000000000 m ∧ K (.one (.slice (((meetL (vals l) (vals m)).map acan).map aC)))) b) a
 | _ => False
theorem cmeet_Ge (a b : AV) (K : AV → Prop) : cmeet_G [a, b] K = (onAs (fun l => onAs (fun m => l.length ≤ 1000 ∧ m.length ≤ 1000 ∧ okAs 1000000000 l ∧ okAs 1000000000 m ∧ K (.one (.slice (((meetL (vals l) (vals m)).map acan).map aC)))) b) a) := propext Iff.rfl
@[congr] theorem cmeet_Gc {K : AV → Prop} {l l' : List AV} (h : l = l') : cmeet_G l K = cmeet_G l' K := by subst h; rfl
attribute [go_sem] cmeet_Ge
attribute [go_sem ↓] cmeet_Ge
end Go.Abs
end
section
set_option linter.unusedVariables false
set_option linter.unusedSimpArgs false
set_option maxRecDepth 100000
namespace Go.Num
def res (c : Nat) (L : List Q2) : List Q2 := if c = 0 then lim64 L else []
def cod (c : Nat) (L : List Q2) : Nat := if c = 0 then code64 L else c
end Go.Num
namespace Go.Abs
open Go.Num
variable {P : Program} {Γ : Nat → Spec}
def cUnion_G (tE m : Nat) (l : List AV) (K : AV → Prop) : Prop :=
 match l with
 | [a, b] => onAs (fun l => onAs (fun k => (chk [l, k] = 0 → l.length + k.length ≤ m) ∧ okAs 10000000 l ∧ okAs 10000000 k ∧ K (.tup [.one (.slice (((res (chk [l, k]) (nrm (vals l ++ vals k))).map acan).map aC)), errV tE (cod (chk [l, k]) (nrm (vals l ++ vals k)))])) b) a
 | _ => False
theorem cUnion_Ge (tE m : Nat) (a b : AV) (K : AV → Prop) : cUnion_G tE m [a, b] K = (onAs (fun l => onAs (fun k => (chk [l, k] = 0 → l.length + k.length ≤ m) ∧ okAs 10000000 l ∧ okAs 10000000 k ∧ K (.tup [.one (.slice (((res (chk [l, k]) (nrm (vals l ++ vals k))).map acan).map aC)), errV tE (cod (chk [l, k]) (nrm (vals l ++ vals k)))])) b) a) := propext Iff.rfl
@[congr] theorem cUnion_Gc (tE m : Nat) {K : AV → Prop} {l l' : List AV} (h : l = l') : cUnion_G tE m l K = cUnion_G tE m l' K := by subst h; rfl
attribute [go_sem] cUnion_Ge
attribute [go_sem ↓] cUnion_Ge
def cMeet_G (tE m : Nat) (l : List AV) (K : AV → Prop) : Prop :=
 match l with
 | [a, b] => onAs (fun l => onAs (fun k => (chk [l, k] = 0 → l.length ≤ m ∧ k.length ≤ m) ∧ okAs 10000000 l ∧ okAs 10000000 k ∧ K (.tup [.one (.slice (((res (chk [l, k]) (meetL (nrm (vals l)) (nrm (vals k)))).map acan).map aC)), errV tE (cod (chk [l, k]) (meetL (nrm (vals l)) (nrm (vals k))))])) b) a
 | _ => False
theorem cMeet_Ge (tE m : Nat) (a b : AV) (K : AV → Prop) : cMeet_G tE m [a, b] K = (onAs (fun l => onAs (fun k => (chk [l, k] = 0 → l.length ≤ m ∧ k.length ≤ m) ∧ okAs 10000000 l ∧ okAs 10000000 k ∧ K (.tup [.one (.slice (((res (chk [l, k]) (meetL (nrm (vals l)) (nrm (vals k)))).map acan).map aC)), errV tE (cod (chk [l, k]) (meetL (nrm (vals l)) (nrm (vals k))))])) b) a) := propext Iff.rfl
@[congr] theorem cMeet_Gc (tE m : Nat) {K : AV → Prop} {l l' : List AV} (h : l = l') : cMeet_G tE m l K = cMeet_G tE m l' K := by subst h; rfl
attribute [go_sem] cMeet_Ge
attribute [go_sem ↓] cMeet_Ge
def cNot_G (tE m : Nat) (l : List AV) (K : AV → Prop) : Prop :=
 match l with
 | [a] => onAs (fun l => (chk [l] = 0 → l.length ≤ m) ∧ okAs 10000000 l ∧ K (.tup [.one (.slice (((res (chk [l]) (notL (nrm (vals l)))).map acan).map aC)), errV tE (cod (chk [l]) (notL (nrm (vals l))))])) a
 | _ => False
theorem cNot_Ge (tE m : Nat) (a : AV) (K : AV → Prop) : cNot_G tE m [a] K = (onAs (fun l => (chk [l] = 0 → l.length ≤ m) ∧ okAs 10000000 l ∧ K (.tup [.one (.slice (((res (chk [l]) (notL (nrm (vals l)))).map acan).map aC)), errV tE (cod (chk [l]) (notL (nrm (vals l))))])) a) := propext Iff.rfl
@[congr] theorem cNot_Gc (tE m : Nat) {K : AV → Prop} {l l' : List AV} (h : l = l') : cNot_G tE m l K = cNot_G tE m l' K := by subst h; rfl
attribute [go_sem] cNot_Ge
attribute [go_sem ↓] cNot_Ge
end Go.Abs
end
section
set_option linter.unusedVariables false
set_option linter.unusedSimpArgs false
set_option maxRecDepth 100000
namespace Go.Abs
open Go.Num
variable {P : Program} {Γ : Nat → Spec}
def bgives_G (tE : Nat) (l : List AV) (K : AV → Prop) : Prop :=
 match l with
 | [a, e, b, n] => onAs (fun l => onErr tE (fun c => onAs (fun m => asInt (fun k n => k = .i64 ∧ okAs 1073741824 l ∧ okAs 1073741824 m ∧ K (.one (.lit (.bool (decide ((c : Int) = n) && decide (vals l = vals m)))))) n) b) e) a
 | _ => False
theorem bgives_Ge (tE : Nat) (a e b n : AV) (K : AV → Prop) : bgives_G tE [a, e, b, n] K = (onAs (fun l => onErr tE (fun c => onAs (fun m => asInt (fun k n => k = .i64 ∧ okAs 1073741824 l ∧ okAs 1073741824 m ∧ K (.one (.lit (.bool (decide ((c : Int) = n) && decide (vals l = vals m)))))) n) b) e) a) := propext Iff.rfl
@[congr] theorem bgives_Gc (tE : Nat) {K : AV → Prop} {l l' : List AV} (h : l = l') : bgives_G tE l K = bgives_G tE l' K := by subst h; rfl
attribute [go_sem] bgives_Ge
attribute [go_sem ↓] bgives_Ge
def fhas_G (l : List AV) (K : AV → Prop) : Prop :=
 match l with
 | [a, b] => onAs (fun l => onR (fun y => okAs 1073741824 l ∧ rl y ≤ 1073741824 ∧ K (.one (.lit (.bool (l.any (inA (rv y))))))) b) a
 | _ => False
theorem fhas_Ge (a b : AV) (K : AV → Prop) : fhas_G [a, b] K = (onAs (fun l => onR (fun y => okAs 1073741824 l ∧ rl y ≤ 1073741824 ∧ K (.one (.lit (.bool (l.any (inA (rv y))))))) b) a) := propext Iff.rfl
@[congr] theorem fhas_Gc {K : AV → Prop} {l l' : List AV} (h : l = l') : fhas_G l K = fhas_G l' K := by subst h; rfl
attribute [go_sem] fhas_Ge
attribute [go_sem ↓] fhas_Ge
def fcount_G (l : List AV) (K : AV → Prop) : Prop :=
 match l with
 | [a, b] => onL (fun L => onR (fun y => (∀ l ∈ L, okAs 1073741824 l) ∧ rl y ≤ 1073741824 ∧ L.length ≤ 1000000 ∧ K (.one (.lit (.int .i64 (L.countP (fun l => l.any (inA (rv y))) : Nat))))) b) a
 | _ => False
theorem fcount_Ge (a b : AV) (K : AV → Prop) : fcount_G [a, b] K = (onL (fun L => onR (fun y => (∀ l ∈ L, okAs 1073741824 l) ∧ rl y ≤ 1073741824 ∧ L.length ≤ 1000000 ∧ K (.one (.lit (.int .i64 (L.countP (fun l => l.any (inA (rv y))) : Nat))))) b) a) := propext Iff.rfl
@[congr] theorem fcount_Gc {K : AV → Prop} {l l' : List AV} (h : l = l') : fcount_G l K = fcount_G l' K := by subst h; rfl
attribute [go_sem] fcount_Ge
attribute [go_sem ↓] fcount_Ge
end Go.Abs
end
section
set_option linter.unusedVariables false
namespace Go.Abs
open Go.Num
def rC (x : R) : List C := [cb x, cn x, cd x]
theorem rC_eq (x : R) : rC x = [cb x, cn x, cd x] := eq_of_heq (HEq.refl _)
theorem len_rC (x : R) : (rC x).length = 3 := eq_of_heq (HEq.refl _)
theorem getE_rC (K : List C → Prop) (L : List R) (i : Nat) : getE K (L.map rC) i = (i < L.length ∧ K (rC (L.getD i (rcan 0)))) := by
 simp only [getE, List.length_map, List.getElem?_map]
 refine propext ⟨fun h => ⟨h.1, h.2 _ (by simp [h.1, List.getD_eq_getElem?_getD])⟩, fun h => ⟨h.1, fun e he => ?_⟩⟩
 simp [h.1] at he
 subst he
 have := h.2
 simpa [List.getD_eq_getElem?_getD, h.1] using this
theorem clean_rC (l : List R) : CleanR (l.map rC) = True := eq_true fun e he c hc => by
 obtain ⟨x, _, rfl⟩ := List.mem_map.1 he
 exact clean_ref3 x c hc
theorem all_rC (L : List R) : (∀ e ∈ L.map rC, e.length = 3) = True := eq_true fun e he => by
 obtain ⟨l, _, rfl⟩ := List.mem_map.1 he; rfl
theorem dats_rC (h : Nat → HB) (L : List R) : (L.map rC).map (fun x => x.map (datC h)) = L.map rC := by
 rw [List.map_map]; exact List.map_congr_left fun x _ => rfl
theorem owns_rC (L : List R) : (L.map rC).flatMap (fun x => x.flatMap ownC) = [] := by
 rw [List.flatMap_map]; exact List.flatMap_eq_nil_iff.2 fun x _ => rfl
theorem dats_lC (h : Nat → HB) (L : List (List Arc)) : (L.map lC).map (fun x => x.map (datC h)) = L.map lC := by
 rw [List.map_map]; exact List.map_congr_left fun x _ => rfl
theorem owns_lC (L : List (List Arc)) : (L.map lC).flatMap (fun x => x.flatMap ownC) = [] := by
 rw [List.flatMap_map]; exact List.flatMap_eq_nil_iff.2 fun x _ => rfl
theorem frz_nil (h : Nat → HB) : frz [] h = h := eq_of_heq (HEq.refl _)
attribute [go_sem] len_rC getE_rC clean_rC all_rC dats_rC owns_rC dats_lC owns_lC frz_nil
attribute [go_sem ↓] len_rC getE_rC clean_rC all_rC dats_rC owns_rC dats_lC owns_lC frz_nil
end Go.Abs
end
