/-
  Parts of the proof, merged: ChartZ.
-/
import Derived.Test.YtmhnmddljmllpaaGreatM9
set_option linter.unusedVariables false
set_option linter.unusedSimpArgs false
/-
  The law ChartHas keeps its contract.
-/
section
set_option linter.unusedVariables false
set_option linter.unusedSimpArgs false
set_option maxRecDepth 100000
namespace Go.Abs
open Go.Num

variable {P : Program} {Γ : Nat → Spec}

theorem wpL_app (dr : Bool) : ∀ (l m : List AO) (Q : S → Prop), wpL Γ dr Q (l ++ m) = wpL Γ dr (wpL Γ dr Q m) l
  | [], m, Q => rfl
  | o :: l, m, Q => by
    have ih := wpL_app dr l m Q
    funext s
    show wpG Γ dr s (wpL Γ dr Q (l ++ m)) o = wpG Γ dr s (wpL Γ dr (wpL Γ dr Q m) l) o
    rw [ih]
theorem wpA_ops_ret (l : List AO) (Q : Ex → S → Prop) (s : S) : wpA Γ (.seq (.ops false l) .ret) Q s = wpL Γ false (Q .ret) l s := rfl

-- theorem g_onR g_onW
-- theorem g_onR
-- theorem g_onAs
def lHas_G (l : List AV) (K : AV → Prop) : Prop :=
  match l with
  | [a, b, c] => onAs (fun l => onAs (fun k => onR (fun y => okAs 1048576 l ∧ okAs 1048576 k ∧ rl y ≤ 1048576 ∧ K (.one (.lit (.bool true)))) c) b) a
  | _ => False
theorem lHas_Ge (a b c : AV) (K : AV → Prop) : lHas_G [a, b, c] K = (onAs (fun l => onAs (fun k => onR (fun y => okAs 1048576 l ∧ okAs 1048576 k ∧ rl y ≤ 1048576 ∧ K (.one (.lit (.bool true)))) c) b) a) := propext Iff.rfl
@[congr] theorem lHas_Gc {K : AV → Prop} {l l' : List AV} (h : l = l') : lHas_G l K = lHas_G l' K := by subst h; rfl
attribute [go_sem] lHas_Ge
attribute [go_sem ↓] lHas_Ge
theorem lHas_good : Good lHas_G := good_of fun as => by
  unfold lHas_G
  split
  · repeat (first | exact .ret _ | exact .of (fun K hk => hk.elim) | (refine .and fun _ => ?_) | (refine g_onWs fun _ => ?_) | (refine g_onR fun _ => ?_) | (refine g_onR fun _ => ?_) | (refine g_onAs fun _ => ?_) | (refine g_asInt (fun _ _ => ?_) _) | (refine g_asBool (fun _ => ?_) _) | (refine g_onE ?_ ?_) | (intro _) | assumption)
  · exact .of fun K hk => hk.elim


def ac_linkworklaw54_ChartHas_c1_o1 (f_linkworklaw54_awake f_linkworklaw54_valid f_linkworklaw54_long f_linkworkref02_Valid f_chart_Union f_chart_Meet f_chart_Not f_chart_Norm f_linkworkref54_Same f_chart_Has : Nat) : List AO := [⟨some 130, none, .mv (.t 18)⟩, ⟨some 131, none, .binn .eql (.t 130) (.c (.one (.lit .nilIface)))⟩, ⟨some 132, none, .mv (.t 131)⟩, ⟨some 133, some (132, true), .mv (.t 20)⟩, ⟨some 134, some (132, true), .binn .eql (.t 133) (.c (.one (.lit .nilIface)))⟩, ⟨some 135, none, .pick (.t 132) (.t 134) (.c (.one (.lit (.bool false))))⟩, ⟨some 136, none, .mv (.t 135)⟩, ⟨some 137, some (136, true), .mv (.t 22)⟩, ⟨some 138, some (136, true), .binn .eql (.t 137) (.c (.one (.lit .nilIface)))⟩, ⟨some 139, none, .pick (.t 136) (.t 138) (.c (.one (.lit (.bool false))))⟩, ⟨some 140, none, .mv (.t 139)⟩, ⟨some 141, some (140, true), .mv (.t 24)⟩]
theorem ac_linkworklaw54_ChartHas_c1_o1_e {f_linkworklaw54_awake f_linkworklaw54_valid f_linkworklaw54_long f_linkworkref02_Valid f_chart_Union f_chart_Meet f_chart_Not f_chart_Norm f_linkworkref54_Same f_chart_Has : Nat} (Γ : Nat → Spec) (dr : Bool) (Q : S → Prop) (s : S) : wpL Γ dr Q (ac_linkworklaw54_ChartHas_c1_o1 f_linkworklaw54_awake f_linkworklaw54_valid f_linkworklaw54_long f_linkworkref02_Valid f_chart_Union f_chart_Meet f_chart_Not f_chart_Norm f_linkworkref54_Same f_chart_Has) s = wpL Γ dr Q [⟨some 130, none, .mv (.t 18)⟩, ⟨some 131, none, .binn .eql (.t 130) (.c (.one (.lit .nilIface)))⟩, ⟨some 132, none, .mv (.t 131)⟩, ⟨some 133, some (132, true), .mv (.t 20)⟩, ⟨some 134, some (132, true), .binn .eql (.t 133) (.c (.one (.lit .nilIface)))⟩, ⟨some 135, none, .pick (.t 132) (.t 134) (.c (.one (.lit (.bool false))))⟩, ⟨some 136, none, .mv (.t 135)⟩, ⟨some 137, some (136, true), .mv (.t 22)⟩, ⟨some 138, some (136, true), .binn .eql (.t 137) (.c (.one (.lit .nilIface)))⟩, ⟨some 139, none, .pick (.t 136) (.t 138) (.c (.one (.lit (.bool false))))⟩, ⟨some 140, none, .mv (.t 139)⟩, ⟨some 141, some (140, true), .mv (.t 24)⟩] s := eq_of_heq (HEq.refl _)

def ac_linkworklaw54_ChartHas_c1_o2 (f_linkworklaw54_awake f_linkworklaw54_valid f_linkworklaw54_long f_linkworkref02_Valid f_chart_Union f_chart_Meet f_chart_Not f_chart_Norm f_linkworkref54_Same f_chart_Has : Nat) : List AO := [⟨some 142, some (140, true), .binn .eql (.t 141) (.c (.one (.lit .nilIface)))⟩, ⟨some 143, none, .pick (.t 140) (.t 142) (.c (.one (.lit (.bool false))))⟩, ⟨some 144, none, .mv (.t 143)⟩, ⟨some 145, some (144, true), .mv (.t 26)⟩, ⟨some 146, some (144, true), .binn .eql (.t 145) (.c (.one (.lit .nilIface)))⟩, ⟨some 147, none, .pick (.t 144) (.t 146) (.c (.one (.lit (.bool false))))⟩, ⟨some 148, none, .mv (.t 147)⟩, ⟨some 149, some (148, true), .mv (.t 21)⟩, ⟨some 150, some (148, true), .mv (.t 17)⟩, ⟨some 151, some (148, true), .mv (.t 150)⟩, ⟨some 152, some (151, false), .mv (.t 19)⟩, ⟨some 153, some (148, true), .pick (.t 151) (.c (.one (.lit (.bool true)))) (.t 152)⟩]
theorem ac_linkworklaw54_ChartHas_c1_o2_e {f_linkworklaw54_awake f_linkworklaw54_valid f_linkworklaw54_long f_linkworkref02_Valid f_chart_Union f_chart_Meet f_chart_Not f_chart_Norm f_linkworkref54_Same f_chart_Has : Nat} (Γ : Nat → Spec) (dr : Bool) (Q : S → Prop) (s : S) : wpL Γ dr Q (ac_linkworklaw54_ChartHas_c1_o2 f_linkworklaw54_awake f_linkworklaw54_valid f_linkworklaw54_long f_linkworkref02_Valid f_chart_Union f_chart_Meet f_chart_Not f_chart_Norm f_linkworkref54_Same f_chart_Has) s = wpL Γ dr Q [⟨some 142, some (140, true), .binn .eql (.t 141) (.c (.one (.lit .nilIface)))⟩, ⟨some 143, none, .pick (.t 140) (.t 142) (.c (.one (.lit (.bool false))))⟩, ⟨some 144, none, .mv (.t 143)⟩, ⟨some 145, some (144, true), .mv (.t 26)⟩, ⟨some 146, some (144, true), .binn .eql (.t 145) (.c (.one (.lit .nilIface)))⟩, ⟨some 147, none, .pick (.t 144) (.t 146) (.c (.one (.lit (.bool false))))⟩, ⟨some 148, none, .mv (.t 147)⟩, ⟨some 149, some (148, true), .mv (.t 21)⟩, ⟨some 150, some (148, true), .mv (.t 17)⟩, ⟨some 151, some (148, true), .mv (.t 150)⟩, ⟨some 152, some (151, false), .mv (.t 19)⟩, ⟨some 153, some (148, true), .pick (.t 151) (.c (.one (.lit (.bool true)))) (.t 152)⟩] s := eq_of_heq (HEq.refl _)

def ac_linkworklaw54_ChartHas_c1_o3 (f_linkworklaw54_awake f_linkworklaw54_valid f_linkworklaw54_long f_linkworkref02_Valid f_chart_Union f_chart_Meet f_chart_Not f_chart_Norm f_linkworkref54_Same f_chart_Has : Nat) : List AO := [⟨some 154, some (148, true), .binb .eql (.t 149) (.t 153)⟩, ⟨some 155, none, .pick (.t 148) (.t 154) (.c (.one (.lit (.bool false))))⟩, ⟨some 156, none, .mv (.t 155)⟩, ⟨some 157, some (156, true), .mv (.t 23)⟩, ⟨some 158, some (156, true), .mv (.t 17)⟩, ⟨some 159, some (156, true), .mv (.t 158)⟩, ⟨some 160, some (159, true), .mv (.t 19)⟩, ⟨some 161, some (156, true), .pick (.t 159) (.t 160) (.c (.one (.lit (.bool false))))⟩, ⟨some 162, some (156, true), .binb .eql (.t 157) (.t 161)⟩, ⟨some 163, none, .pick (.t 156) (.t 162) (.c (.one (.lit (.bool false))))⟩, ⟨some 164, none, .mv (.t 163)⟩, ⟨some 165, some (164, true), .mv (.t 25)⟩]
theorem ac_linkworklaw54_ChartHas_c1_o3_e {f_linkworklaw54_awake f_linkworklaw54_valid f_linkworklaw54_long f_linkworkref02_Valid f_chart_Union f_chart_Meet f_chart_Not f_chart_Norm f_linkworkref54_Same f_chart_Has : Nat} (Γ : Nat → Spec) (dr : Bool) (Q : S → Prop) (s : S) : wpL Γ dr Q (ac_linkworklaw54_ChartHas_c1_o3 f_linkworklaw54_awake f_linkworklaw54_valid f_linkworklaw54_long f_linkworkref02_Valid f_chart_Union f_chart_Meet f_chart_Not f_chart_Norm f_linkworkref54_Same f_chart_Has) s = wpL Γ dr Q [⟨some 154, some (148, true), .binb .eql (.t 149) (.t 153)⟩, ⟨some 155, none, .pick (.t 148) (.t 154) (.c (.one (.lit (.bool false))))⟩, ⟨some 156, none, .mv (.t 155)⟩, ⟨some 157, some (156, true), .mv (.t 23)⟩, ⟨some 158, some (156, true), .mv (.t 17)⟩, ⟨some 159, some (156, true), .mv (.t 158)⟩, ⟨some 160, some (159, true), .mv (.t 19)⟩, ⟨some 161, some (156, true), .pick (.t 159) (.t 160) (.c (.one (.lit (.bool false))))⟩, ⟨some 162, some (156, true), .binb .eql (.t 157) (.t 161)⟩, ⟨some 163, none, .pick (.t 156) (.t 162) (.c (.one (.lit (.bool false))))⟩, ⟨some 164, none, .mv (.t 163)⟩, ⟨some 165, some (164, true), .mv (.t 25)⟩] s := eq_of_heq (HEq.refl _)

def ac_linkworklaw54_ChartHas_c1_o4 (f_linkworklaw54_awake f_linkworklaw54_valid f_linkworklaw54_long f_linkworkref02_Valid f_chart_Union f_chart_Meet f_chart_Not f_chart_Norm f_linkworkref54_Same f_chart_Has : Nat) : List AO := [⟨some 166, some (164, true), .mv (.t 17)⟩, ⟨some 167, some (164, true), .un .not (.t 166)⟩, ⟨some 168, some (164, true), .binb .eql (.t 165) (.t 167)⟩, ⟨some 169, none, .pick (.t 164) (.t 168) (.c (.one (.lit (.bool false))))⟩, ⟨some 6, none, .mv (.t 169)⟩]
theorem ac_linkworklaw54_ChartHas_c1_o4_e {f_linkworklaw54_awake f_linkworklaw54_valid f_linkworklaw54_long f_linkworkref02_Valid f_chart_Union f_chart_Meet f_chart_Not f_chart_Norm f_linkworkref54_Same f_chart_Has : Nat} (Γ : Nat → Spec) (dr : Bool) (Q : S → Prop) (s : S) : wpL Γ dr Q (ac_linkworklaw54_ChartHas_c1_o4 f_linkworklaw54_awake f_linkworklaw54_valid f_linkworklaw54_long f_linkworkref02_Valid f_chart_Union f_chart_Meet f_chart_Not f_chart_Norm f_linkworkref54_Same f_chart_Has) s = wpL Γ dr Q [⟨some 166, some (164, true), .mv (.t 17)⟩, ⟨some 167, some (164, true), .un .not (.t 166)⟩, ⟨some 168, some (164, true), .binb .eql (.t 165) (.t 167)⟩, ⟨some 169, none, .pick (.t 164) (.t 168) (.c (.one (.lit (.bool false))))⟩, ⟨some 6, none, .mv (.t 169)⟩] s := eq_of_heq (HEq.refl _)

def ac_linkworklaw54_ChartHas_c1 (f_linkworklaw54_awake f_linkworklaw54_valid f_linkworklaw54_long f_linkworkref02_Valid f_chart_Union f_chart_Meet f_chart_Not f_chart_Norm f_linkworkref54_Same f_chart_Has : Nat) : AC := (.seq (.ops false (ac_linkworklaw54_ChartHas_c1_o1 f_linkworklaw54_awake f_linkworklaw54_valid f_linkworklaw54_long f_linkworkref02_Valid f_chart_Union f_chart_Meet f_chart_Not f_chart_Norm f_linkworkref54_Same f_chart_Has ++ (ac_linkworklaw54_ChartHas_c1_o2 f_linkworklaw54_awake f_linkworklaw54_valid f_linkworklaw54_long f_linkworkref02_Valid f_chart_Union f_chart_Meet f_chart_Not f_chart_Norm f_linkworkref54_Same f_chart_Has ++ (ac_linkworklaw54_ChartHas_c1_o3 f_linkworklaw54_awake f_linkworklaw54_valid f_linkworklaw54_long f_linkworkref02_Valid f_chart_Union f_chart_Meet f_chart_Not f_chart_Norm f_linkworkref54_Same f_chart_Has ++ (ac_linkworklaw54_ChartHas_c1_o4 f_linkworklaw54_awake f_linkworklaw54_valid f_linkworklaw54_long f_linkworkref02_Valid f_chart_Union f_chart_Meet f_chart_Not f_chart_Norm f_linkworkref54_Same f_chart_Has)))))
 .ret)
theorem ac_linkworklaw54_ChartHas_c1_e {f_linkworklaw54_awake f_linkworklaw54_valid f_linkworklaw54_long f_linkworkref02_Valid f_chart_Union f_chart_Meet f_chart_Not f_chart_Norm f_linkworkref54_Same f_chart_Has : Nat} (Γ : Nat → Spec) (Q : Ex → S → Prop) (s : S) : wpA Γ (ac_linkworklaw54_ChartHas_c1 f_linkworklaw54_awake f_linkworklaw54_valid f_linkworklaw54_long f_linkworkref02_Valid f_chart_Union f_chart_Meet f_chart_Not f_chart_Norm f_linkworkref54_Same f_chart_Has) Q s = wpA Γ (.seq (.ops false (ac_linkworklaw54_ChartHas_c1_o1 f_linkworklaw54_awake f_linkworklaw54_valid f_linkworklaw54_long f_linkworkref02_Valid f_chart_Union f_chart_Meet f_chart_Not f_chart_Norm f_linkworkref54_Same f_chart_Has ++ (ac_linkworklaw54_ChartHas_c1_o2 f_linkworklaw54_awake f_linkworklaw54_valid f_linkworklaw54_long f_linkworkref02_Valid f_chart_Union f_chart_Meet f_chart_Not f_chart_Norm f_linkworkref54_Same f_chart_Has ++ (ac_linkworklaw54_ChartHas_c1_o3 f_linkworklaw54_awake f_linkworklaw54_valid f_linkworklaw54_long f_linkworkref02_Valid f_chart_Union f_chart_Meet f_chart_Not f_chart_Norm f_linkworkref54_Same f_chart_Has ++ (ac_linkworklaw54_ChartHas_c1_o4 f_linkworklaw54_awake f_linkworklaw54_valid f_linkworklaw54_long f_linkworkref02_Valid f_chart_Union f_chart_Meet f_chart_Not f_chart_Norm f_linkworkref54_Same f_chart_Has)))))
 .ret) Q s := eq_of_heq (HEq.refl _)

def ac_linkworklaw54_ChartHas_c2 (f_linkworklaw54_awake f_linkworklaw54_valid f_linkworklaw54_long f_linkworkref02_Valid f_chart_Union f_chart_Meet f_chart_Not f_chart_Norm f_linkworkref54_Same f_chart_Has : Nat) : AC := (.seq (.ops false [⟨some 107, none, .mv (.t 1)⟩, ⟨some 108, none, .ld none 3 true (.t 5)⟩, ⟨some 109, none, .call f_chart_Has [(.t 107), (.t 108)]⟩, ⟨some 106, none, .mv (.t 109)⟩, ⟨some 110, none, .ext 0 (.t 106)⟩, ⟨some 111, none, .ext 1 (.t 106)⟩, ⟨some 19, none, .mv (.t 110)⟩, ⟨some 20, none, .mv (.t 111)⟩])
 (.fg [5, 7, 9, 11, 17, 18, 19, 20] (.seq (.ops false [⟨some 113, none, .mv (.t 7)⟩, ⟨some 114, none, .ld none 3 true (.t 5)⟩, ⟨some 115, none, .call f_chart_Has [(.t 113), (.t 114)]⟩, ⟨some 112, none, .mv (.t 115)⟩, ⟨some 116, none, .ext 0 (.t 112)⟩, ⟨some 117, none, .ext 1 (.t 112)⟩, ⟨some 21, none, .mv (.t 116)⟩, ⟨some 22, none, .mv (.t 117)⟩])
 (.fg [5, 9, 11, 17, 18, 19, 20, 21, 22] (.seq (.ops false [⟨some 119, none, .mv (.t 9)⟩, ⟨some 120, none, .ld none 3 true (.t 5)⟩, ⟨some 121, none, .call f_chart_Has [(.t 119), (.t 120)]⟩, ⟨some 118, none, .mv (.t 121)⟩, ⟨some 122, none, .ext 0 (.t 118)⟩, ⟨some 123, none, .ext 1 (.t 118)⟩, ⟨some 23, none, .mv (.t 122)⟩, ⟨some 24, none, .mv (.t 123)⟩])
 (.fg [5, 11, 17, 18, 19, 20, 21, 22, 23, 24] (.seq (.ops false [⟨some 125, none, .mv (.t 11)⟩, ⟨some 126, none, .ld none 3 true (.t 5)⟩, ⟨some 127, none, .call f_chart_Has [(.t 125), (.t 126)]⟩, ⟨some 124, none, .mv (.t 127)⟩, ⟨some 128, none, .ext 0 (.t 124)⟩, ⟨some 129, none, .ext 1 (.t 124)⟩, ⟨some 25, none, .mv (.t 128)⟩, ⟨some 26, none, .mv (.t 129)⟩])
 (.fg [17, 18, 19, 20, 21, 22, 23, 24, 25, 26] (ac_linkworklaw54_ChartHas_c1 f_linkworklaw54_awake f_linkworklaw54_valid f_linkworklaw54_long f_linkworkref02_Valid f_chart_Union f_chart_Meet f_chart_Not f_chart_Norm f_linkworkref54_Same f_chart_Has)))))))))
theorem ac_linkworklaw54_ChartHas_c2_e {f_linkworklaw54_awake f_linkworklaw54_valid f_linkworklaw54_long f_linkworkref02_Valid f_chart_Union f_chart_Meet f_chart_Not f_chart_Norm f_linkworkref54_Same f_chart_Has : Nat} (Γ : Nat → Spec) (Q : Ex → S → Prop) (s : S) : wpA Γ (ac_linkworklaw54_ChartHas_c2 f_linkworklaw54_awake f_linkworklaw54_valid f_linkworklaw54_long f_linkworkref02_Valid f_chart_Union f_chart_Meet f_chart_Not f_chart_Norm f_linkworkref54_Same f_chart_Has) Q s = wpA Γ (.seq (.ops false [⟨some 107, none, .mv (.t 1)⟩, ⟨some 108, none, .ld none 3 true (.t 5)⟩, ⟨some 109, none, .call f_chart_Has [(.t 107), (.t 108)]⟩, ⟨some 106, none, .mv (.t 109)⟩, ⟨some 110, none, .ext 0 (.t 106)⟩, ⟨some 111, none, .ext 1 (.t 106)⟩, ⟨some 19, none, .mv (.t 110)⟩, ⟨some 20, none, .mv (.t 111)⟩])
 (.fg [5, 7, 9, 11, 17, 18, 19, 20] (.seq (.ops false [⟨some 113, none, .mv (.t 7)⟩, ⟨some 114, none, .ld none 3 true (.t 5)⟩, ⟨some 115, none, .call f_chart_Has [(.t 113), (.t 114)]⟩, ⟨some 112, none, .mv (.t 115)⟩, ⟨some 116, none, .ext 0 (.t 112)⟩, ⟨some 117, none, .ext 1 (.t 112)⟩, ⟨some 21, none, .mv (.t 116)⟩, ⟨some 22, none, .mv (.t 117)⟩])
 (.fg [5, 9, 11, 17, 18, 19, 20, 21, 22] (.seq (.ops false [⟨some 119, none, .mv (.t 9)⟩, ⟨some 120, none, .ld none 3 true (.t 5)⟩, ⟨some 121, none, .call f_chart_Has [(.t 119), (.t 120)]⟩, ⟨some 118, none, .mv (.t 121)⟩, ⟨some 122, none, .ext 0 (.t 118)⟩, ⟨some 123, none, .ext 1 (.t 118)⟩, ⟨some 23, none, .mv (.t 122)⟩, ⟨some 24, none, .mv (.t 123)⟩])
 (.fg [5, 11, 17, 18, 19, 20, 21, 22, 23, 24] (.seq (.ops false [⟨some 125, none, .mv (.t 11)⟩, ⟨some 126, none, .ld none 3 true (.t 5)⟩, ⟨some 127, none, .call f_chart_Has [(.t 125), (.t 126)]⟩, ⟨some 124, none, .mv (.t 127)⟩, ⟨some 128, none, .ext 0 (.t 124)⟩, ⟨some 129, none, .ext 1 (.t 124)⟩, ⟨some 25, none, .mv (.t 128)⟩, ⟨some 26, none, .mv (.t 129)⟩])
 (.fg [17, 18, 19, 20, 21, 22, 23, 24, 25, 26] (ac_linkworklaw54_ChartHas_c1 f_linkworklaw54_awake f_linkworklaw54_valid f_linkworklaw54_long f_linkworkref02_Valid f_chart_Union f_chart_Meet f_chart_Not f_chart_Norm f_linkworkref54_Same f_chart_Has))))))))) Q s := eq_of_heq (HEq.refl _)
attribute [go_sem ↓] ac_linkworklaw54_ChartHas_c2_e
attribute [go_sem] ac_linkworklaw54_ChartHas_c2_e

def ac_linkworklaw54_ChartHas_c3 (f_linkworklaw54_awake f_linkworklaw54_valid f_linkworklaw54_long f_linkworkref02_Valid f_chart_Union f_chart_Meet f_chart_Not f_chart_Norm f_linkworkref54_Same f_chart_Has : Nat) : AC := (.seq (.seq (.ops false [⟨some 76, none, .mv (.t 8)⟩, ⟨some 77, none, .binn .neq (.t 76) (.c (.one (.lit .nilIface)))⟩, ⟨some 78, none, .mv (.t 77)⟩, ⟨some 79, some (78, false), .mv (.t 10)⟩, ⟨some 80, some (78, false), .binn .neq (.t 79) (.c (.one (.lit .nilIface)))⟩, ⟨some 81, none, .pick (.t 78) (.c (.one (.lit (.bool true)))) (.t 80)⟩, ⟨some 82, none, .mv (.t 81)⟩, ⟨some 83, some (82, false), .mv (.t 12)⟩, ⟨some 84, some (82, false), .binn .neq (.t 83) (.c (.one (.lit .nilIface)))⟩, ⟨some 85, none, .pick (.t 82) (.c (.one (.lit (.bool true)))) (.t 84)⟩, ⟨some 86, none, .mv (.t 85)⟩, ⟨some 87, some (86, false), .mv (.t 14)⟩, ⟨some 88, some (86, false), .binn .neq (.t 87) (.c (.one (.lit .nilIface)))⟩, ⟨some 89, none, .pick (.t 86) (.c (.one (.lit (.bool true)))) (.t 88)⟩, ⟨some 90, none, .mv (.t 89)⟩, ⟨some 91, some (90, false), .mv (.t 16)⟩, ⟨some 92, some (90, false), .binn .neq (.t 91) (.c (.one (.lit .nilIface)))⟩, ⟨some 93, none, .pick (.t 90) (.c (.one (.lit (.bool true)))) (.t 92)⟩, ⟨some 94, none, .mv (.t 93)⟩, ⟨some 95, some (94, false), .mv (.t 13)⟩, ⟨some 96, some (94, false), .mv (.t 15)⟩, ⟨some 97, some (94, false), .call f_linkworkref54_Same [(.t 95), (.t 96)]⟩, ⟨some 98, some (94, false), .un .not (.t 97)⟩, ⟨some 99, none, .pick (.t 94) (.c (.one (.lit (.bool true)))) (.t 98)⟩])
 (.fg [0, 1, 5, 7, 9, 11, 99] (.cond (.t 99) (.seq (.ops false [⟨some 6, none, .mv (.c (.one (.lit (.bool false))))⟩])
 .ret) .skip)))
 (.fg [0, 1, 5, 7, 9, 11] (.seq (.ops false [⟨some 101, none, .mv (.t 0)⟩, ⟨some 102, none, .ld none 3 true (.t 5)⟩, ⟨some 103, none, .call f_chart_Has [(.t 101), (.t 102)]⟩, ⟨some 100, none, .mv (.t 103)⟩, ⟨some 104, none, .ext 0 (.t 100)⟩, ⟨some 105, none, .ext 1 (.t 100)⟩, ⟨some 17, none, .mv (.t 104)⟩, ⟨some 18, none, .mv (.t 105)⟩])
 (.fg [1, 5, 7, 9, 11, 17, 18] (ac_linkworklaw54_ChartHas_c2 f_linkworklaw54_awake f_linkworklaw54_valid f_linkworklaw54_long f_linkworkref02_Valid f_chart_Union f_chart_Meet f_chart_Not f_chart_Norm f_linkworkref54_Same f_chart_Has)))))
theorem ac_linkworklaw54_ChartHas_c3_e {f_linkworklaw54_awake f_linkworklaw54_valid f_linkworklaw54_long f_linkworkref02_Valid f_chart_Union f_chart_Meet f_chart_Not f_chart_Norm f_linkworkref54_Same f_chart_Has : Nat} (Γ : Nat → Spec) (Q : Ex → S → Prop) (s : S) : wpA Γ (ac_linkworklaw54_ChartHas_c3 f_linkworklaw54_awake f_linkworklaw54_valid f_linkworklaw54_long f_linkworkref02_Valid f_chart_Union f_chart_Meet f_chart_Not f_chart_Norm f_linkworkref54_Same f_chart_Has) Q s = wpA Γ (.seq (.seq (.ops false [⟨some 76, none, .mv (.t 8)⟩, ⟨some 77, none, .binn .neq (.t 76) (.c (.one (.lit .nilIface)))⟩, ⟨some 78, none, .mv (.t 77)⟩, ⟨some 79, some (78, false), .mv (.t 10)⟩, ⟨some 80, some (78, false), .binn .neq (.t 79) (.c (.one (.lit .nilIface)))⟩, ⟨some 81, none, .pick (.t 78) (.c (.one (.lit (.bool true)))) (.t 80)⟩, ⟨some 82, none, .mv (.t 81)⟩, ⟨some 83, some (82, false), .mv (.t 12)⟩, ⟨some 84, some (82, false), .binn .neq (.t 83) (.c (.one (.lit .nilIface)))⟩, ⟨some 85, none, .pick (.t 82) (.c (.one (.lit (.bool true)))) (.t 84)⟩, ⟨some 86, none, .mv (.t 85)⟩, ⟨some 87, some (86, false), .mv (.t 14)⟩, ⟨some 88, some (86, false), .binn .neq (.t 87) (.c (.one (.lit .nilIface)))⟩, ⟨some 89, none, .pick (.t 86) (.c (.one (.lit (.bool true)))) (.t 88)⟩, ⟨some 90, none, .mv (.t 89)⟩, ⟨some 91, some (90, false), .mv (.t 16)⟩, ⟨some 92, some (90, false), .binn .neq (.t 91) (.c (.one (.lit .nilIface)))⟩, ⟨some 93, none, .pick (.t 90) (.c (.one (.lit (.bool true)))) (.t 92)⟩, ⟨some 94, none, .mv (.t 93)⟩, ⟨some 95, some (94, false), .mv (.t 13)⟩, ⟨some 96, some (94, false), .mv (.t 15)⟩, ⟨some 97, some (94, false), .call f_linkworkref54_Same [(.t 95), (.t 96)]⟩, ⟨some 98, some (94, false), .un .not (.t 97)⟩, ⟨some 99, none, .pick (.t 94) (.c (.one (.lit (.bool true)))) (.t 98)⟩])
 (.fg [0, 1, 5, 7, 9, 11, 99] (.cond (.t 99) (.seq (.ops false [⟨some 6, none, .mv (.c (.one (.lit (.bool false))))⟩])
 .ret) .skip)))
 (.fg [0, 1, 5, 7, 9, 11] (.seq (.ops false [⟨some 101, none, .mv (.t 0)⟩, ⟨some 102, none, .ld none 3 true (.t 5)⟩, ⟨some 103, none, .call f_chart_Has [(.t 101), (.t 102)]⟩, ⟨some 100, none, .mv (.t 103)⟩, ⟨some 104, none, .ext 0 (.t 100)⟩, ⟨some 105, none, .ext 1 (.t 100)⟩, ⟨some 17, none, .mv (.t 104)⟩, ⟨some 18, none, .mv (.t 105)⟩])
 (.fg [1, 5, 7, 9, 11, 17, 18] (ac_linkworklaw54_ChartHas_c2 f_linkworklaw54_awake f_linkworklaw54_valid f_linkworklaw54_long f_linkworkref02_Valid f_chart_Union f_chart_Meet f_chart_Not f_chart_Norm f_linkworkref54_Same f_chart_Has))))) Q s := eq_of_heq (HEq.refl _)
attribute [go_sem ↓] ac_linkworklaw54_ChartHas_c3_e
attribute [go_sem] ac_linkworklaw54_ChartHas_c3_e

def ac_linkworklaw54_ChartHas_c4 (f_linkworklaw54_awake f_linkworklaw54_valid f_linkworklaw54_long f_linkworkref02_Valid f_chart_Union f_chart_Meet f_chart_Not f_chart_Norm f_linkworkref54_Same f_chart_Has : Nat) : AC := (.seq (.ops false [⟨some 50, none, .mv (.t 0)⟩, ⟨some 51, none, .mv (.t 1)⟩, ⟨some 52, none, .call f_chart_Union [(.t 50), (.t 51)]⟩, ⟨some 49, none, .mv (.t 52)⟩, ⟨some 53, none, .ext 0 (.t 49)⟩, ⟨some 54, none, .ext 1 (.t 49)⟩, ⟨some 7, none, .mv (.t 53)⟩, ⟨some 8, none, .mv (.t 54)⟩])
 (.fg [0, 1, 5, 7, 8] (.seq (.ops false [⟨some 56, none, .mv (.t 0)⟩, ⟨some 57, none, .mv (.t 1)⟩, ⟨some 58, none, .call f_chart_Meet [(.t 56), (.t 57)]⟩, ⟨some 55, none, .mv (.t 58)⟩, ⟨some 59, none, .ext 0 (.t 55)⟩, ⟨some 60, none, .ext 1 (.t 55)⟩, ⟨some 9, none, .mv (.t 59)⟩, ⟨some 10, none, .mv (.t 60)⟩])
 (.fg [0, 1, 5, 7, 8, 9, 10] (.seq (.ops false [⟨some 62, none, .mv (.t 0)⟩, ⟨some 63, none, .call f_chart_Not [(.t 62)]⟩, ⟨some 61, none, .mv (.t 63)⟩, ⟨some 64, none, .ext 0 (.t 61)⟩, ⟨some 65, none, .ext 1 (.t 61)⟩, ⟨some 11, none, .mv (.t 64)⟩, ⟨some 12, none, .mv (.t 65)⟩])
 (.fg [0, 1, 5, 7, 8, 9, 10, 11, 12] (.seq (.ops false [⟨some 67, none, .mv (.t 11)⟩, ⟨some 68, none, .call f_chart_Not [(.t 67)]⟩, ⟨some 66, none, .mv (.t 68)⟩, ⟨some 69, none, .ext 0 (.t 66)⟩, ⟨some 70, none, .ext 1 (.t 66)⟩, ⟨some 13, none, .mv (.t 69)⟩, ⟨some 14, none, .mv (.t 70)⟩])
 (.fg [0, 1, 5, 7, 8, 9, 10, 11, 12, 13, 14] (.seq (.ops false [⟨some 72, none, .mv (.t 0)⟩, ⟨some 73, none, .call f_chart_Norm [(.t 72)]⟩, ⟨some 71, none, .mv (.t 73)⟩, ⟨some 74, none, .ext 0 (.t 71)⟩, ⟨some 75, none, .ext 1 (.t 71)⟩, ⟨some 15, none, .mv (.t 74)⟩, ⟨some 16, none, .mv (.t 75)⟩])
 (.fg [0, 1, 5, 7, 8, 9, 10, 11, 12, 13, 14, 15, 16] (ac_linkworklaw54_ChartHas_c3 f_linkworklaw54_awake f_linkworklaw54_valid f_linkworklaw54_long f_linkworkref02_Valid f_chart_Union f_chart_Meet f_chart_Not f_chart_Norm f_linkworkref54_Same f_chart_Has)))))))))))
theorem ac_linkworklaw54_ChartHas_c4_e {f_linkworklaw54_awake f_linkworklaw54_valid f_linkworklaw54_long f_linkworkref02_Valid f_chart_Union f_chart_Meet f_chart_Not f_chart_Norm f_linkworkref54_Same f_chart_Has : Nat} (Γ : Nat → Spec) (Q : Ex → S → Prop) (s : S) : wpA Γ (ac_linkworklaw54_ChartHas_c4 f_linkworklaw54_awake f_linkworklaw54_valid f_linkworklaw54_long f_linkworkref02_Valid f_chart_Union f_chart_Meet f_chart_Not f_chart_Norm f_linkworkref54_Same f_chart_Has) Q s = wpA Γ (.seq (.ops false [⟨some 50, none, .mv (.t 0)⟩, ⟨some 51, none, .mv (.t 1)⟩, ⟨some 52, none, .call f_chart_Union [(.t 50), (.t 51)]⟩, ⟨some 49, none, .mv (.t 52)⟩, ⟨some 53, none, .ext 0 (.t 49)⟩, ⟨some 54, none, .ext 1 (.t 49)⟩, ⟨some 7, none, .mv (.t 53)⟩, ⟨some 8, none, .mv (.t 54)⟩])
 (.fg [0, 1, 5, 7, 8] (.seq (.ops false [⟨some 56, none, .mv (.t 0)⟩, ⟨some 57, none, .mv (.t 1)⟩, ⟨some 58, none, .call f_chart_Meet [(.t 56), (.t 57)]⟩, ⟨some 55, none, .mv (.t 58)⟩, ⟨some 59, none, .ext 0 (.t 55)⟩, ⟨some 60, none, .ext 1 (.t 55)⟩, ⟨some 9, none, .mv (.t 59)⟩, ⟨some 10, none, .mv (.t 60)⟩])
 (.fg [0, 1, 5, 7, 8, 9, 10] (.seq (.ops false [⟨some 62, none, .mv (.t 0)⟩, ⟨some 63, none, .call f_chart_Not [(.t 62)]⟩, ⟨some 61, none, .mv (.t 63)⟩, ⟨some 64, none, .ext 0 (.t 61)⟩, ⟨some 65, none, .ext 1 (.t 61)⟩, ⟨some 11, none, .mv (.t 64)⟩, ⟨some 12, none, .mv (.t 65)⟩])
 (.fg [0, 1, 5, 7, 8, 9, 10, 11, 12] (.seq (.ops false [⟨some 67, none, .mv (.t 11)⟩, ⟨some 68, none, .call f_chart_Not [(.t 67)]⟩, ⟨some 66, none, .mv (.t 68)⟩, ⟨some 69, none, .ext 0 (.t 66)⟩, ⟨some 70, none, .ext 1 (.t 66)⟩, ⟨some 13, none, .mv (.t 69)⟩, ⟨some 14, none, .mv (.t 70)⟩])
 (.fg [0, 1, 5, 7, 8, 9, 10, 11, 12, 13, 14] (.seq (.ops false [⟨some 72, none, .mv (.t 0)⟩, ⟨some 73, none, .call f_chart_Norm [(.t 72)]⟩, ⟨some 71, none, .mv (.t 73)⟩, ⟨some 74, none, .ext 0 (.t 71)⟩, ⟨some 75, none, .ext 1 (.t 71)⟩, ⟨some 15, none, .mv (.t 74)⟩, ⟨some 16, none, .mv (.t 75)⟩])
 (.fg [0, 1, 5, 7, 8, 9, 10, 11, 12, 13, 14, 15, 16] (ac_linkworklaw54_ChartHas_c3 f_linkworklaw54_awake f_linkworklaw54_valid f_linkworklaw54_long f_linkworkref02_Valid f_chart_Union f_chart_Meet f_chart_Not f_chart_Norm f_linkworkref54_Same f_chart_Has))))))))))) Q s := eq_of_heq (HEq.refl _)
attribute [go_sem ↓] ac_linkworklaw54_ChartHas_c4_e
attribute [go_sem] ac_linkworklaw54_ChartHas_c4_e

/-- linkwork/linkworklaw54.ChartHas (170) [.tmp 6] -/
def ac_linkworklaw54_ChartHas (f_linkworklaw54_awake f_linkworklaw54_valid f_linkworklaw54_long f_linkworkref02_Valid f_chart_Union f_chart_Meet f_chart_Not f_chart_Norm f_linkworkref54_Same f_chart_Has : Nat) : AC := (.seq (.ops false [⟨some 5, none, .box 3 (.t 2)⟩, ⟨some 6, none, .mv (.c (.one (.lit (.bool false))))⟩])
 (.fg [0, 1, 5] (.seq (.seq (.ops false [⟨some 27, none, .call f_linkworklaw54_awake []⟩, ⟨some 28, none, .un .not (.t 27)⟩, ⟨some 29, none, .mv (.t 28)⟩, ⟨some 30, some (29, false), .mv (.t 0)⟩, ⟨some 31, some (29, false), .call f_linkworklaw54_valid [(.t 30)]⟩, ⟨some 32, some (29, false), .un .not (.t 31)⟩, ⟨some 33, none, .pick (.t 29) (.c (.one (.lit (.bool true)))) (.t 32)⟩, ⟨some 34, none, .mv (.t 33)⟩, ⟨some 35, some (34, false), .mv (.t 1)⟩, ⟨some 36, some (34, false), .call f_linkworklaw54_valid [(.t 35)]⟩, ⟨some 37, some (34, false), .un .not (.t 36)⟩, ⟨some 38, none, .pick (.t 34) (.c (.one (.lit (.bool true)))) (.t 37)⟩, ⟨some 39, none, .mv (.t 38)⟩, ⟨some 40, some (39, false), .ld none 3 true (.t 5)⟩, ⟨some 41, some (39, false), .call f_linkworklaw54_long [(.t 40)]⟩, ⟨some 42, none, .pick (.t 39) (.c (.one (.lit (.bool true)))) (.t 41)⟩, ⟨some 43, none, .mv (.t 42)⟩, ⟨some 44, some (43, false), .ld none 3 true (.t 5)⟩, ⟨some 45, some (43, false), .call f_linkworkref02_Valid [(.t 44)]⟩, ⟨some 46, some (43, false), .un .not (.t 45)⟩, ⟨some 47, none, .pick (.t 43) (.c (.one (.lit (.bool true)))) (.t 46)⟩])
 (.fg [0, 1, 5, 47] (.cond (.t 47) (.seq (.ops false [⟨some 48, none, .call f_linkworklaw54_awake []⟩, ⟨some 6, none, .mv (.t 48)⟩])
 .ret) .skip)))
 (.fg [0, 1, 5] (ac_linkworklaw54_ChartHas_c4 f_linkworklaw54_awake f_linkworklaw54_valid f_linkworklaw54_long f_linkworkref02_Valid f_chart_Union f_chart_Meet f_chart_Not f_chart_Norm f_linkworkref54_Same f_chart_Has)))))


set_option maxHeartbeats 4000000 in
theorem lHas_sound (hΓ : Holds P Γ) {f fw fv fl fr fu fm fn fN fs fh tE m : Nat} (hm : 64 ≤ m) (hw : Γ fw = .dat true lawake_G) (hv : Γ fv = .dat true rvalidL_G) (hl : Γ fl = .dat true rlong_G) (hr : Γ fr = .dat true rvalid_G) (hu : Γ fu = .dat false (cUnion_G tE m)) (hme : Γ fm = .dat false (cMeet_G tE m)) (hn : Γ fn = .dat false (cNot_G tE m)) (hN : Γ fN = .dat false (cNorm_G tE m)) (hs : Γ fs = .dat true rsame_G) (hh : Γ fh = .dat false (cHas_G tE))
    (hc : check P f = some (170, (ac_linkworklaw54_ChartHas fw fv fl fr fu fm fn fN fs fh).strip, [.tmp 6])) : Sound P f (.dat true lHas_G) := by
  refine sound_dat hc lHas_good hΓ (fun args K hcl hfi hG => ?_)
  match args, hG with
  | [a, b, c], hG =>
    obtain ⟨l, rfl, hwl, k, rfl, hwk, y, rfl, hy, hol, hok, hyl, hK⟩ := hG
    refine ⟨by simp, ?_⟩
    have hol1 : okAs 1073741824 l := okAs_mono hol (by decide)
    have hok1 : okAs 1073741824 k := okAs_mono hok (by decide)
    have hyl1 : rl y ≤ 4294967296 := by omega
    have hyl2 : rl y ≤ 1000000000 := by omega
    cases hvl : validL l with
    | false =>
      simp only [go_sem, ↓reduceIte, Nat.reduceEqDiff, Nat.reduceAdd, Nat.reduceLT, Nat.reduceLeDiff, Int.reduceToNat, Nat.reducePow, Nat.reduceMul, reduceCtorEq, ac_linkworklaw54_ChartHas, hw, hv, hl, hr, hu, hme, hn, hN, hs, hh, hvl]
      exact ⟨hwl, hol1, hK⟩
    | true =>
    cases hvk : validL k with
    | false =>
      simp only [go_sem, ↓reduceIte, Nat.reduceEqDiff, Nat.reduceAdd, Nat.reduceLT, Nat.reduceLeDiff, Int.reduceToNat, Nat.reducePow, Nat.reduceMul, reduceCtorEq, ac_linkworklaw54_ChartHas, hw, hv, hl, hr, hu, hme, hn, hN, hs, hh, hvl, hvk]
      exact ⟨hwl, hol1, hwk, hok1, hK⟩
    | true =>
    cases hlo : longR y with
    | true =>
      simp only [go_sem, ↓reduceIte, Nat.reduceEqDiff, Nat.reduceAdd, Nat.reduceLT, Nat.reduceLeDiff, Int.reduceToNat, Nat.reducePow, Nat.reduceMul, reduceCtorEq, ac_linkworklaw54_ChartHas, hw, hv, hl, hr, hu, hme, hn, hN, hs, hh, hvl, hvk, hy, hyl1, hlo]
      exact ⟨hwl, hol1, hwk, hok1, hK⟩
    | false =>
    cases hvy : vldR y with
    | false =>
      simp only [go_sem, ↓reduceIte, Nat.reduceEqDiff, Nat.reduceAdd, Nat.reduceLT, Nat.reduceLeDiff, Int.reduceToNat, Nat.reducePow, Nat.reduceMul, reduceCtorEq, ac_linkworklaw54_ChartHas, hw, hv, hl, hr, hu, hme, hn, hN, hs, hh, hvl, hvk, hy, hyl1, hlo, hvy]
      exact ⟨hwl, hol1, hwk, hok1, hK⟩
    | true =>
    obtain ⟨kl, nl⟩ := validL_t hvl
    obtain ⟨kk, nk⟩ := validL_t hvk
    have kb := chk_20 kl kk
    have ql := nq_val kl nl hol
    have qk := nq_val kk nk hok
    obtain ⟨pl, il⟩ := chk_val kl
    obtain ⟨pk, ik⟩ := chk_val kk
    have pU : Pos (vals l ++ vals k) := fun q hq => (List.mem_append.1 hq).elim (pl q) (pk q)
    have qU : NQ 1048576 40 (nrm (vals l ++ vals k)) := nq_nrm pU (fun q hq => (List.mem_append.1 hq).elim (il q) (ik q)) (by simp [vals]; omega) (fun q hq => (List.mem_append.1 hq).elim (rzQ_vals hol q) (rzQ_vals hok q))
    have qM := nq_meet ql qk
    have qN := nq_not ql (by decide)
    have qNN := nq_not qN (by decide)
    obtain ⟨U, hU⟩ : ∃ U, U = nrm (vals l ++ vals k) := ⟨_, rfl⟩
    obtain ⟨W, hW⟩ : ∃ W, W = nrm (vals l) := ⟨_, rfl⟩
    obtain ⟨V, hV⟩ : ∃ V, V = nrm (vals k) := ⟨_, rfl⟩
    rw [← hW] at ql qM qN qNN; rw [← hV] at qk qM
    obtain ⟨M, hM⟩ : ∃ M, M = meetL W V := ⟨_, rfl⟩
    obtain ⟨N, hNN⟩ : ∃ N, N = notL W := ⟨_, rfl⟩
    rw [← hU] at qU; rw [← hM] at qM; rw [← hNN] at qN qNN
    have eN : notL (nrm N) = W := by rw [qN.nrm, hNN, not_not ql (by decide)]
    have r1 := qU.res (by decide)
    have r2 := qM.res (by decide)
    have r3 := qN.res (by decide)
    have r4 := ql.res (by decide)
    have c1 := qU.cod (by decide)
    have c2 := qM.cod (by decide)
    have c3 := qN.cod (by decide)
    have c4 := ql.cod (by decide)
    have kU := qU.chk (by decide)
    have kM := qM.chk (by decide)
    have kN := qN.chk (by decide)
    have lN : (N.map acan).length ≤ m := by rw [List.length_map]; have := qN.len; omega
    obtain ⟨q, hq⟩ : ∃ q, q = frac (rv y) := ⟨_, rfl⟩
    have m1 : (U.map acan).any (inA q) = (l.any (inA q) || k.any (inA q)) := by
      rw [any_can, any_mem, any_mem, ← Bool.decide_or, decide_eq_decide, hU, (nrm_ok pU).2.2 q, memL_append]
    have m2 : (M.map acan).any (inA q) = (l.any (inA q) && k.any (inA q)) := by
      rw [any_can, any_mem, any_mem, ← Bool.decide_and, decide_eq_decide, hM, mem_meetL, hW, hV, (nrm_ok pl).2.2 q, (nrm_ok pk).2.2 q]
    have m3 : (N.map acan).any (inA q) = !(l.any (inA q)) := by
      rw [any_can, any_mem, ← decide_not, decide_eq_decide, hNN, hW, (notL_ok (nrm_ok pl).1 (nrm_ok pl).2.1 (nrm_in pl il)).1 q, (nrm_ok pl).2.2 q]
      exact ⟨fun h => h.2.2, fun h => ⟨by rw [hq]; exact frac_ge _, by rw [hq]; exact frac_lt _, h⟩⟩
    rw [List.length_map] at lN
    simp only [go_sem, ↓reduceIte, Nat.reduceEqDiff, Nat.reduceAdd, Nat.reduceLT, Nat.reduceLeDiff, Int.reduceToNat, Nat.reducePow, Nat.reduceMul, reduceCtorEq, ac_linkworklaw54_ChartHas, hw, hv, hl, hr, hu, hme, hn, hN, hs, hh, hvl, hvk, hy, hyl1, hyl2, hlo, hvy, kl, kk, kb, ← hU, ← hW, ← hV, ← hM, ← hNN, ← hq, r1, r2, r3, r4, c1, c2, c3, c4, kU, kM, kN, errV_0, vals_can, eN, m1, m2, m3, Bool.true_and]
    refine ⟨hwl, hol1, hwk, hok1, hwl, hwk, by omega, okAs_mono hol (by decide), okAs_mono hok (by decide), hwl, hwk, by omega, okAs_mono hol (by decide), okAs_mono hok (by decide), hwl, by omega, okAs_mono hol (by decide), WLA_cans _, lN, qN.ok (by decide), hwl, by omega, okAs_mono hol (by decide), WLA_cans _, WLA_cans _, ql.ok (by decide), ql.ok (by decide),
      hwl, okAs_mono hol (by decide), hwk, okAs_mono hok (by decide), WLA_cans _, qU.ok (by decide), WLA_cans _, qM.ok (by decide), WLA_cans _, qN.ok (by decide), ?_⟩
    rw [ac_linkworklaw54_ChartHas_c1_e, wpA_ops_ret, wpL_app, wpL_app, wpL_app]
    clear m1 m2 m3
    generalize l.any (inA q) = p
    generalize k.any (inA q) = r
    cases p <;> cases r
    all_goals
      rw [ac_linkworklaw54_ChartHas_c1_o1_e]
      simp only [go_sem, ↓reduceIte, Nat.reduceEqDiff, Nat.reduceAdd, Nat.reduceLT, Nat.reduceLeDiff, Int.reduceToNat, Nat.reducePow, Nat.reduceMul, reduceCtorEq, Bool.or_false, Bool.or_true, Bool.and_false, Bool.and_true, Bool.false_and, Bool.true_and, Bool.false_or, Bool.true_or, beq_self_eq_true]
      rw [ac_linkworklaw54_ChartHas_c1_o2_e]
      simp only [go_sem, ↓reduceIte, Nat.reduceEqDiff, Nat.reduceAdd, Nat.reduceLT, Nat.reduceLeDiff, Int.reduceToNat, Nat.reducePow, Nat.reduceMul, reduceCtorEq, Bool.or_false, Bool.or_true, Bool.and_false, Bool.and_true, Bool.false_and, Bool.true_and, Bool.false_or, Bool.true_or, beq_self_eq_true]
      rw [ac_linkworklaw54_ChartHas_c1_o3_e]
      simp only [go_sem, ↓reduceIte, Nat.reduceEqDiff, Nat.reduceAdd, Nat.reduceLT, Nat.reduceLeDiff, Int.reduceToNat, Nat.reducePow, Nat.reduceMul, reduceCtorEq, Bool.or_false, Bool.or_true, Bool.and_false, Bool.and_true, Bool.false_and, Bool.true_and, Bool.false_or, Bool.true_or, beq_self_eq_true]
      rw [ac_linkworklaw54_ChartHas_c1_o4_e]
      simp only [go_sem, ↓reduceIte, Nat.reduceEqDiff, Nat.reduceAdd, Nat.reduceLT, Nat.reduceLeDiff, Int.reduceToNat, Nat.reducePow, Nat.reduceMul, reduceCtorEq, Bool.or_false, Bool.or_true, Bool.and_false, Bool.and_true, Bool.false_and, Bool.true_and, Bool.false_or, Bool.true_or, beq_self_eq_true]
      exact hK

end Go.Abs
end
