/-
  Parts of the proof, merged: ChartO.
-/
import Derived.Test.YtmhnmddljmllpaaGreatM6
set_option linter.unusedVariables false
set_option linter.unusedSimpArgs false
/-
  The law ChartLengths keeps its contract.
-/
section
set_option linter.unusedVariables false
set_option linter.unusedSimpArgs false
set_option maxRecDepth 100000
namespace Go.Num
theorem rz_sh1 {b : Nat} {y : Rat} {a : Q2} (h1 : rz a.1 ≤ b) (h2 : rz a.2 ≤ b) (hy : rz y ≤ b) : rzQ (9 * b + 40) (sh1 y a) := by
  have s1 := rz_add a.1 y
  have s2 := rz_frac (a.1 + y)
  have s3 := rz_sub a.2 a.1
  unfold sh1
  simp only
  generalize frac (a.1 + y) = f at *
  have s4 := rz_add f (a.2 - a.1)
  generalize f + (a.2 - a.1) = t at *
  have s5 := rz_sub t 1
  have s6 := rz_one
  have s7 := rz_zero
  intro q hq
  have : (q = (0, t - 1) ∨ q = (f, 1) ∨ q = (f, t)) := by
    split at hq
    · rcases List.mem_cons.1 hq with rfl | hq
      · exact .inl rfl
      · split at hq
        · rw [List.mem_singleton] at hq; exact .inr (.inl hq)
        · simp at hq
    · split at hq
      · rw [List.mem_singleton] at hq; exact .inr (.inr hq)
      · simp at hq
  rcases this with rfl | rfl | rfl <;> simp only <;> omega
theorem rz_shL {b : Nat} {y : Rat} {l : List Q2} (h : rzQ b l) (hy : rz y ≤ b) : rzQ (9 * b + 40) (shL y l) := by
  intro q hq
  obtain ⟨a, ha, hq⟩ := List.mem_flatMap.1 hq
  exact rz_sh1 (h a ha).1 (h a ha).2 hy q hq
theorem nq_shift {b n : Nat} {y : Rat} {l : List Q2} (hp : Pos l) (hi : In01 l) (hl : l.length ≤ n) (h : rzQ b l) (hy : rz y ≤ b) : NQ (9 * b + 40) (2 * n) (nrm (shL y l)) :=
  nq_nrm (pos_shL y l) (in_shL hp hi) (Nat.le_trans (shL_len y l) (Nat.mul_le_mul_left 2 hl)) (rz_shL h hy)
end Go.Num

namespace Go.Abs
open Go.Num

variable {P : Program} {Γ : Nat → Spec}

-- theorem g_onR g_onW
-- theorem g_onR
-- theorem g_onAs
def lLengths_G (l : List AV) (K : AV → Prop) : Prop :=
  match l with
  | [a, b, c] => onAs (fun l => onAs (fun k => onR (fun y => okAs 1048576 l ∧ okAs 1048576 k ∧ rl y ≤ 1048576 ∧ K (.one (.lit (.bool true)))) c) b) a
  | _ => False
theorem lLengths_Ge (a b c : AV) (K : AV → Prop) : lLengths_G [a, b, c] K = (onAs (fun l => onAs (fun k => onR (fun y => okAs 1048576 l ∧ okAs 1048576 k ∧ rl y ≤ 1048576 ∧ K (.one (.lit (.bool true)))) c) b) a) := propext Iff.rfl
@[congr] theorem lLengths_Gc {K : AV → Prop} {l l' : List AV} (h : l = l') : lLengths_G l K = lLengths_G l' K := by subst h; rfl
attribute [go_sem] lLengths_Ge
attribute [go_sem ↓] lLengths_Ge
theorem lLengths_good : Good lLengths_G := good_of fun as => by
  unfold lLengths_G
  split
  · repeat (first | exact .ret _ | exact .of (fun K hk => hk.elim) | (refine .and fun _ => ?_) | (refine g_onWs fun _ => ?_) | (refine g_onR fun _ => ?_) | (refine g_onR fun _ => ?_) | (refine g_onAs fun _ => ?_) | (refine g_asInt (fun _ _ => ?_) _) | (refine g_asBool (fun _ => ?_) _) | (refine g_onE ?_ ?_) | (intro _) | assumption)
  · exact .of fun K hk => hk.elim


def ac_linkworklaw54_ChartLengths_c1 (f_linkworklaw54_awake f_linkworklaw54_valid f_linkworklaw54_long f_linkworkref02_Valid f_chart_Union f_chart_Meet f_chart_Not f_chart_Shift f_fraction_Neg f_chart_Norm f_linkworkref54_Same f_chart_Length f_fraction_Add f_fraction_Cmp f_fraction_Of : Nat) : AC := (.seq (.ops true [⟨some 133, none, .mv (.t 19)⟩, ⟨some 134, none, .idx 3 (.t 133) (.c (.one (.lit (.int .i64 0))))⟩, ⟨some 135, none, .ld none 3 true (.t 134)⟩, ⟨some 136, none, .mv (.t 19)⟩, ⟨some 137, none, .idx 3 (.t 136) (.c (.one (.lit (.int .i64 1))))⟩, ⟨some 138, none, .ld none 3 true (.t 137)⟩, ⟨some 139, none, .call f_fraction_Add [(.t 135), (.t 138)]⟩, ⟨some 140, none, .mv (.t 19)⟩, ⟨some 141, none, .idx 3 (.t 140) (.c (.one (.lit (.int .i64 2))))⟩, ⟨some 142, none, .ld none 3 true (.t 141)⟩, ⟨some 143, none, .mv (.t 19)⟩, ⟨some 144, none, .idx 3 (.t 143) (.c (.one (.lit (.int .i64 3))))⟩, ⟨some 145, none, .ld none 3 true (.t 144)⟩, ⟨some 146, none, .call f_fraction_Add [(.t 142), (.t 145)]⟩, ⟨some 147, none, .call f_fraction_Cmp [(.t 139), (.t 146)]⟩, ⟨some 148, none, .bin .eql (.t 147) (.c (.one (.lit (.int .i64 0))))⟩, ⟨some 149, none, .mv (.t 148)⟩, ⟨some 150, some (149, true), .mv (.t 19)⟩, ⟨some 151, some (149, true), .idx 3 (.t 150) (.c (.one (.lit (.int .i64 0))))⟩, ⟨some 152, some (149, true), .ld none 3 true (.t 151)⟩, ⟨some 153, some (149, true), .mv (.t 19)⟩, ⟨some 154, some (149, true), .idx 3 (.t 153) (.c (.one (.lit (.int .i64 4))))⟩, ⟨some 155, some (149, true), .ld none 3 true (.t 154)⟩, ⟨some 156, some (149, true), .call f_fraction_Add [(.t 152), (.t 155)]⟩, ⟨some 157, some (149, true), .call f_fraction_Of [(.c (.one (.lit (.int .i64 1))))]⟩, ⟨some 158, some (149, true), .call f_fraction_Cmp [(.t 156), (.t 157)]⟩, ⟨some 159, some (149, true), .bin .eql (.t 158) (.c (.one (.lit (.int .i64 0))))⟩, ⟨some 160, none, .pick (.t 149) (.t 159) (.c (.one (.lit (.bool false))))⟩, ⟨some 161, none, .mv (.t 160)⟩, ⟨some 162, some (161, true), .mv (.t 19)⟩, ⟨some 163, some (161, true), .idx 3 (.t 162) (.c (.one (.lit (.int .i64 0))))⟩, ⟨some 164, some (161, true), .ld none 3 true (.t 163)⟩, ⟨some 165, some (161, true), .mv (.t 19)⟩, ⟨some 166, some (161, true), .idx 3 (.t 165) (.c (.one (.lit (.int .i64 5))))⟩, ⟨some 167, some (161, true), .ld none 3 true (.t 166)⟩, ⟨some 168, some (161, true), .call f_fraction_Cmp [(.t 164), (.t 167)]⟩, ⟨some 169, some (161, true), .bin .eql (.t 168) (.c (.one (.lit (.int .i64 0))))⟩, ⟨some 170, none, .pick (.t 161) (.t 169) (.c (.one (.lit (.bool false))))⟩, ⟨some 6, none, .mv (.t 170)⟩])
 .ret)
theorem ac_linkworklaw54_ChartLengths_c1_e {f_linkworklaw54_awake f_linkworklaw54_valid f_linkworklaw54_long f_linkworkref02_Valid f_chart_Union f_chart_Meet f_chart_Not f_chart_Shift f_fraction_Neg f_chart_Norm f_linkworkref54_Same f_chart_Length f_fraction_Add f_fraction_Cmp f_fraction_Of : Nat} (Γ : Nat → Spec) (Q : Ex → S → Prop) (s : S) : wpA Γ (ac_linkworklaw54_ChartLengths_c1 f_linkworklaw54_awake f_linkworklaw54_valid f_linkworklaw54_long f_linkworkref02_Valid f_chart_Union f_chart_Meet f_chart_Not f_chart_Shift f_fraction_Neg f_chart_Norm f_linkworkref54_Same f_chart_Length f_fraction_Add f_fraction_Cmp f_fraction_Of) Q s = wpA Γ (.seq (.ops true [⟨some 133, none, .mv (.t 19)⟩, ⟨some 134, none, .idx 3 (.t 133) (.c (.one (.lit (.int .i64 0))))⟩, ⟨some 135, none, .ld none 3 true (.t 134)⟩, ⟨some 136, none, .mv (.t 19)⟩, ⟨some 137, none, .idx 3 (.t 136) (.c (.one (.lit (.int .i64 1))))⟩, ⟨some 138, none, .ld none 3 true (.t 137)⟩, ⟨some 139, none, .call f_fraction_Add [(.t 135), (.t 138)]⟩, ⟨some 140, none, .mv (.t 19)⟩, ⟨some 141, none, .idx 3 (.t 140) (.c (.one (.lit (.int .i64 2))))⟩, ⟨some 142, none, .ld none 3 true (.t 141)⟩, ⟨some 143, none, .mv (.t 19)⟩, ⟨some 144, none, .idx 3 (.t 143) (.c (.one (.lit (.int .i64 3))))⟩, ⟨some 145, none, .ld none 3 true (.t 144)⟩, ⟨some 146, none, .call f_fraction_Add [(.t 142), (.t 145)]⟩, ⟨some 147, none, .call f_fraction_Cmp [(.t 139), (.t 146)]⟩, ⟨some 148, none, .bin .eql (.t 147) (.c (.one (.lit (.int .i64 0))))⟩, ⟨some 149, none, .mv (.t 148)⟩, ⟨some 150, some (149, true), .mv (.t 19)⟩, ⟨some 151, some (149, true), .idx 3 (.t 150) (.c (.one (.lit (.int .i64 0))))⟩, ⟨some 152, some (149, true), .ld none 3 true (.t 151)⟩, ⟨some 153, some (149, true), .mv (.t 19)⟩, ⟨some 154, some (149, true), .idx 3 (.t 153) (.c (.one (.lit (.int .i64 4))))⟩, ⟨some 155, some (149, true), .ld none 3 true (.t 154)⟩, ⟨some 156, some (149, true), .call f_fraction_Add [(.t 152), (.t 155)]⟩, ⟨some 157, some (149, true), .call f_fraction_Of [(.c (.one (.lit (.int .i64 1))))]⟩, ⟨some 158, some (149, true), .call f_fraction_Cmp [(.t 156), (.t 157)]⟩, ⟨some 159, some (149, true), .bin .eql (.t 158) (.c (.one (.lit (.int .i64 0))))⟩, ⟨some 160, none, .pick (.t 149) (.t 159) (.c (.one (.lit (.bool false))))⟩, ⟨some 161, none, .mv (.t 160)⟩, ⟨some 162, some (161, true), .mv (.t 19)⟩, ⟨some 163, some (161, true), .idx 3 (.t 162) (.c (.one (.lit (.int .i64 0))))⟩, ⟨some 164, some (161, true), .ld none 3 true (.t 163)⟩, ⟨some 165, some (161, true), .mv (.t 19)⟩, ⟨some 166, some (161, true), .idx 3 (.t 165) (.c (.one (.lit (.int .i64 5))))⟩, ⟨some 167, some (161, true), .ld none 3 true (.t 166)⟩, ⟨some 168, some (161, true), .call f_fraction_Cmp [(.t 164), (.t 167)]⟩, ⟨some 169, some (161, true), .bin .eql (.t 168) (.c (.one (.lit (.int .i64 0))))⟩, ⟨some 170, none, .pick (.t 161) (.t 169) (.c (.one (.lit (.bool false))))⟩, ⟨some 6, none, .mv (.t 170)⟩])
 .ret) Q s := eq_of_heq (HEq.refl _)
attribute [go_sem ↓] ac_linkworklaw54_ChartLengths_c1_e
attribute [go_sem] ac_linkworklaw54_ChartLengths_c1_e

def ac_linkworklaw54_ChartLengths_c2 (f_linkworklaw54_awake f_linkworklaw54_valid f_linkworklaw54_long f_linkworkref02_Valid f_chart_Union f_chart_Meet f_chart_Not f_chart_Shift f_fraction_Neg f_chart_Norm f_linkworkref54_Same f_chart_Length f_fraction_Add f_fraction_Cmp f_fraction_Of : Nat) : AC := (.seq (.seq (.ops false [⟨some 109, none, .mv (.t 0)⟩, ⟨some 110, none, .mv (.t 1)⟩, ⟨some 111, none, .mv (.t 7)⟩, ⟨some 112, none, .mv (.t 9)⟩, ⟨some 113, none, .mv (.t 11)⟩, ⟨some 114, none, .mv (.t 13)⟩, ⟨some 115, none, .row 1 [[.x 1 (.t 109)], [.x 1 (.t 110)], [.x 1 (.t 111)], [.x 1 (.t 112)], [.x 1 (.t 113)], [.x 1 (.t 114)]]⟩, ⟨some 116, none, .len (.t 115)⟩, ⟨some 117, none, .mv (.c (.one (.lit (.int .i64 0))))⟩])
 (.fg [19, 115, 116, 117] (.block 0 (.loop (.seq (.ops false [⟨some 118, none, .bin .lss (.t 117) (.t 116)⟩])
 (.fg [19, 115, 116, 117, 118] (.seq (.cond (.t 118) .skip (.exit 0))
 (.fg [19, 115, 116, 117] (.seq (.block 1 (.seq (.ops false [⟨some 119, none, .idx 1 (.t 115) (.t 117)⟩, ⟨some 120, none, .ld none 1 false (.t 119)⟩, ⟨some 21, none, .mv (.t 120)⟩])
 (.fg [19, 21, 115, 116, 117] (.seq (.ops false [⟨some 122, none, .mv (.t 21)⟩, ⟨some 123, none, .call f_chart_Length [(.t 122)]⟩, ⟨some 121, none, .mv (.t 123)⟩, ⟨some 124, none, .ext 0 (.t 121)⟩, ⟨some 125, none, .ext 1 (.t 121)⟩, ⟨some 22, none, .alloc [(.lit (.bool false)), .emp, .emp]⟩, ⟨none, none, .st none 3 (.t 22) (.t 124)⟩, ⟨some 23, none, .mv (.t 125)⟩])
 (.fg [19, 22, 23, 115, 116, 117] (.seq (.seq (.ops false [⟨some 126, none, .mv (.t 23)⟩, ⟨some 127, none, .binn .neq (.t 126) (.c (.one (.lit .nilIface)))⟩])
 (.fg [19, 22, 115, 116, 117, 127] (.cond (.t 127) (.seq (.ops false [⟨some 6, none, .mv (.c (.one (.lit (.bool false))))⟩])
 .ret) .skip)))
 (.fg [19, 22, 115, 116, 117] (.ops false [⟨some 128, none, .mv (.t 19)⟩, ⟨some 129, none, .ld none 3 true (.t 22)⟩, ⟨some 130, none, .row 3 [[.x 3 (.t 129)]]⟩, ⟨some 131, none, .app 3 (.t 128) (.t 130)⟩, ⟨some 19, none, .mv (.t 131)⟩]))))))))
 (.fg [19, 115, 116, 117] (.ops false [⟨some 132, none, .bin .add (.t 117) (.c (.one (.lit (.int .i64 1))))⟩, ⟨some 117, none, .mv (.t 132)⟩])))))))))))
 (.fg [19] (ac_linkworklaw54_ChartLengths_c1 f_linkworklaw54_awake f_linkworklaw54_valid f_linkworklaw54_long f_linkworkref02_Valid f_chart_Union f_chart_Meet f_chart_Not f_chart_Shift f_fraction_Neg f_chart_Norm f_linkworkref54_Same f_chart_Length f_fraction_Add f_fraction_Cmp f_fraction_Of)))
theorem ac_linkworklaw54_ChartLengths_c2_e {f_linkworklaw54_awake f_linkworklaw54_valid f_linkworklaw54_long f_linkworkref02_Valid f_chart_Union f_chart_Meet f_chart_Not f_chart_Shift f_fraction_Neg f_chart_Norm f_linkworkref54_Same f_chart_Length f_fraction_Add f_fraction_Cmp f_fraction_Of : Nat} (Γ : Nat → Spec) (Q : Ex → S → Prop) (s : S) : wpA Γ (ac_linkworklaw54_ChartLengths_c2 f_linkworklaw54_awake f_linkworklaw54_valid f_linkworklaw54_long f_linkworkref02_Valid f_chart_Union f_chart_Meet f_chart_Not f_chart_Shift f_fraction_Neg f_chart_Norm f_linkworkref54_Same f_chart_Length f_fraction_Add f_fraction_Cmp f_fraction_Of) Q s = wpA Γ (.seq (.seq (.ops false [⟨some 109, none, .mv (.t 0)⟩, ⟨some 110, none, .mv (.t 1)⟩, ⟨some 111, none, .mv (.t 7)⟩, ⟨some 112, none, .mv (.t 9)⟩, ⟨some 113, none, .mv (.t 11)⟩, ⟨some 114, none, .mv (.t 13)⟩, ⟨some 115, none, .row 1 [[.x 1 (.t 109)], [.x 1 (.t 110)], [.x 1 (.t 111)], [.x 1 (.t 112)], [.x 1 (.t 113)], [.x 1 (.t 114)]]⟩, ⟨some 116, none, .len (.t 115)⟩, ⟨some 117, none, .mv (.c (.one (.lit (.int .i64 0))))⟩])
 (.fg [19, 115, 116, 117] (.block 0 (.loop (.seq (.ops false [⟨some 118, none, .bin .lss (.t 117) (.t 116)⟩])
 (.fg [19, 115, 116, 117, 118] (.seq (.cond (.t 118) .skip (.exit 0))
 (.fg [19, 115, 116, 117] (.seq (.block 1 (.seq (.ops false [⟨some 119, none, .idx 1 (.t 115) (.t 117)⟩, ⟨some 120, none, .ld none 1 false (.t 119)⟩, ⟨some 21, none, .mv (.t 120)⟩])
 (.fg [19, 21, 115, 116, 117] (.seq (.ops false [⟨some 122, none, .mv (.t 21)⟩, ⟨some 123, none, .call f_chart_Length [(.t 122)]⟩, ⟨some 121, none, .mv (.t 123)⟩, ⟨some 124, none, .ext 0 (.t 121)⟩, ⟨some 125, none, .ext 1 (.t 121)⟩, ⟨some 22, none, .alloc [(.lit (.bool false)), .emp, .emp]⟩, ⟨none, none, .st none 3 (.t 22) (.t 124)⟩, ⟨some 23, none, .mv (.t 125)⟩])
 (.fg [19, 22, 23, 115, 116, 117] (.seq (.seq (.ops false [⟨some 126, none, .mv (.t 23)⟩, ⟨some 127, none, .binn .neq (.t 126) (.c (.one (.lit .nilIface)))⟩])
 (.fg [19, 22, 115, 116, 117, 127] (.cond (.t 127) (.seq (.ops false [⟨some 6, none, .mv (.c (.one (.lit (.bool false))))⟩])
 .ret) .skip)))
 (.fg [19, 22, 115, 116, 117] (.ops false [⟨some 128, none, .mv (.t 19)⟩, ⟨some 129, none, .ld none 3 true (.t 22)⟩, ⟨some 130, none, .row 3 [[.x 3 (.t 129)]]⟩, ⟨some 131, none, .app 3 (.t 128) (.t 130)⟩, ⟨some 19, none, .mv (.t 131)⟩]))))))))
 (.fg [19, 115, 116, 117] (.ops false [⟨some 132, none, .bin .add (.t 117) (.c (.one (.lit (.int .i64 1))))⟩, ⟨some 117, none, .mv (.t 132)⟩])))))))))))
 (.fg [19] (ac_linkworklaw54_ChartLengths_c1 f_linkworklaw54_awake f_linkworklaw54_valid f_linkworklaw54_long f_linkworkref02_Valid f_chart_Union f_chart_Meet f_chart_Not f_chart_Shift f_fraction_Neg f_chart_Norm f_linkworkref54_Same f_chart_Length f_fraction_Add f_fraction_Cmp f_fraction_Of))) Q s := eq_of_heq (HEq.refl _)
attribute [go_sem ↓] ac_linkworklaw54_ChartLengths_c2_e
attribute [go_sem] ac_linkworklaw54_ChartLengths_c2_e

def ac_linkworklaw54_ChartLengths_c3 (f_linkworklaw54_awake f_linkworklaw54_valid f_linkworklaw54_long f_linkworkref02_Valid f_chart_Union f_chart_Meet f_chart_Not f_chart_Shift f_fraction_Neg f_chart_Norm f_linkworkref54_Same f_chart_Length f_fraction_Add f_fraction_Cmp f_fraction_Of : Nat) : AC := (.seq (.seq (.ops false [⟨some 81, none, .mv (.t 8)⟩, ⟨some 82, none, .binn .neq (.t 81) (.c (.one (.lit .nilIface)))⟩, ⟨some 83, none, .mv (.t 82)⟩, ⟨some 84, some (83, false), .mv (.t 10)⟩, ⟨some 85, some (83, false), .binn .neq (.t 84) (.c (.one (.lit .nilIface)))⟩, ⟨some 86, none, .pick (.t 83) (.c (.one (.lit (.bool true)))) (.t 85)⟩, ⟨some 87, none, .mv (.t 86)⟩, ⟨some 88, some (87, false), .mv (.t 12)⟩, ⟨some 89, some (87, false), .binn .neq (.t 88) (.c (.one (.lit .nilIface)))⟩, ⟨some 90, none, .pick (.t 87) (.c (.one (.lit (.bool true)))) (.t 89)⟩, ⟨some 91, none, .mv (.t 90)⟩, ⟨some 92, some (91, false), .mv (.t 14)⟩, ⟨some 93, some (91, false), .binn .neq (.t 92) (.c (.one (.lit .nilIface)))⟩, ⟨some 94, none, .pick (.t 91) (.c (.one (.lit (.bool true)))) (.t 93)⟩, ⟨some 95, none, .mv (.t 94)⟩, ⟨some 96, some (95, false), .mv (.t 16)⟩, ⟨some 97, some (95, false), .binn .neq (.t 96) (.c (.one (.lit .nilIface)))⟩, ⟨some 98, none, .pick (.t 95) (.c (.one (.lit (.bool true)))) (.t 97)⟩, ⟨some 99, none, .mv (.t 98)⟩, ⟨some 100, some (99, false), .mv (.t 18)⟩, ⟨some 101, some (99, false), .binn .neq (.t 100) (.c (.one (.lit .nilIface)))⟩, ⟨some 102, none, .pick (.t 99) (.c (.one (.lit (.bool true)))) (.t 101)⟩, ⟨some 103, none, .mv (.t 102)⟩, ⟨some 104, some (103, false), .mv (.t 15)⟩, ⟨some 105, some (103, false), .mv (.t 17)⟩, ⟨some 106, some (103, false), .call f_linkworkref54_Same [(.t 104), (.t 105)]⟩, ⟨some 107, some (103, false), .un .not (.t 106)⟩, ⟨some 108, none, .pick (.t 103) (.c (.one (.lit (.bool true)))) (.t 107)⟩])
 (.fg [0, 1, 7, 9, 11, 13, 108] (.cond (.t 108) (.seq (.ops false [⟨some 6, none, .mv (.c (.one (.lit (.bool false))))⟩])
 .ret) .skip)))
 (.fg [0, 1, 7, 9, 11, 13] (.seq (.ops false [⟨some 19, none, .mv (.c (.one .emp))⟩])
 (.fg [0, 1, 7, 9, 11, 13, 19] (ac_linkworklaw54_ChartLengths_c2 f_linkworklaw54_awake f_linkworklaw54_valid f_linkworklaw54_long f_linkworkref02_Valid f_chart_Union f_chart_Meet f_chart_Not f_chart_Shift f_fraction_Neg f_chart_Norm f_linkworkref54_Same f_chart_Length f_fraction_Add f_fraction_Cmp f_fraction_Of)))))
theorem ac_linkworklaw54_ChartLengths_c3_e {f_linkworklaw54_awake f_linkworklaw54_valid f_linkworklaw54_long f_linkworkref02_Valid f_chart_Union f_chart_Meet f_chart_Not f_chart_Shift f_fraction_Neg f_chart_Norm f_linkworkref54_Same f_chart_Length f_fraction_Add f_fraction_Cmp f_fraction_Of : Nat} (Γ : Nat → Spec) (Q : Ex → S → Prop) (s : S) : wpA Γ (ac_linkworklaw54_ChartLengths_c3 f_linkworklaw54_awake f_linkworklaw54_valid f_linkworklaw54_long f_linkworkref02_Valid f_chart_Union f_chart_Meet f_chart_Not f_chart_Shift f_fraction_Neg f_chart_Norm f_linkworkref54_Same f_chart_Length f_fraction_Add f_fraction_Cmp f_fraction_Of) Q s = wpA Γ (.seq (.seq (.ops false [⟨some 81, none, .mv (.t 8)⟩, ⟨some 82, none, .binn .neq (.t 81) (.c (.one (.lit .nilIface)))⟩, ⟨some 83, none, .mv (.t 82)⟩, ⟨some 84, some (83, false), .mv (.t 10)⟩, ⟨some 85, some (83, false), .binn .neq (.t 84) (.c (.one (.lit .nilIface)))⟩, ⟨some 86, none, .pick (.t 83) (.c (.one (.lit (.bool true)))) (.t 85)⟩, ⟨some 87, none, .mv (.t 86)⟩, ⟨some 88, some (87, false), .mv (.t 12)⟩, ⟨some 89, some (87, false), .binn .neq (.t 88) (.c (.one (.lit .nilIface)))⟩, ⟨some 90, none, .pick (.t 87) (.c (.one (.lit (.bool true)))) (.t 89)⟩, ⟨some 91, none, .mv (.t 90)⟩, ⟨some 92, some (91, false), .mv (.t 14)⟩, ⟨some 93, some (91, false), .binn .neq (.t 92) (.c (.one (.lit .nilIface)))⟩, ⟨some 94, none, .pick (.t 91) (.c (.one (.lit (.bool true)))) (.t 93)⟩, ⟨some 95, none, .mv (.t 94)⟩, ⟨some 96, some (95, false), .mv (.t 16)⟩, ⟨some 97, some (95, false), .binn .neq (.t 96) (.c (.one (.lit .nilIface)))⟩, ⟨some 98, none, .pick (.t 95) (.c (.one (.lit (.bool true)))) (.t 97)⟩, ⟨some 99, none, .mv (.t 98)⟩, ⟨some 100, some (99, false), .mv (.t 18)⟩, ⟨some 101, some (99, false), .binn .neq (.t 100) (.c (.one (.lit .nilIface)))⟩, ⟨some 102, none, .pick (.t 99) (.c (.one (.lit (.bool true)))) (.t 101)⟩, ⟨some 103, none, .mv (.t 102)⟩, ⟨some 104, some (103, false), .mv (.t 15)⟩, ⟨some 105, some (103, false), .mv (.t 17)⟩, ⟨some 106, some (103, false), .call f_linkworkref54_Same [(.t 104), (.t 105)]⟩, ⟨some 107, some (103, false), .un .not (.t 106)⟩, ⟨some 108, none, .pick (.t 103) (.c (.one (.lit (.bool true)))) (.t 107)⟩])
 (.fg [0, 1, 7, 9, 11, 13, 108] (.cond (.t 108) (.seq (.ops false [⟨some 6, none, .mv (.c (.one (.lit (.bool false))))⟩])
 .ret) .skip)))
 (.fg [0, 1, 7, 9, 11, 13] (.seq (.ops false [⟨some 19, none, .mv (.c (.one .emp))⟩])
 (.fg [0, 1, 7, 9, 11, 13, 19] (ac_linkworklaw54_ChartLengths_c2 f_linkworklaw54_awake f_linkworklaw54_valid f_linkworklaw54_long f_linkworkref02_Valid f_chart_Union f_chart_Meet f_chart_Not f_chart_Shift f_fraction_Neg f_chart_Norm f_linkworkref54_Same f_chart_Length f_fraction_Add f_fraction_Cmp f_fraction_Of))))) Q s := eq_of_heq (HEq.refl _)
attribute [go_sem ↓] ac_linkworklaw54_ChartLengths_c3_e
attribute [go_sem] ac_linkworklaw54_ChartLengths_c3_e

def ac_linkworklaw54_ChartLengths_c4 (f_linkworklaw54_awake f_linkworklaw54_valid f_linkworklaw54_long f_linkworkref02_Valid f_chart_Union f_chart_Meet f_chart_Not f_chart_Shift f_fraction_Neg f_chart_Norm f_linkworkref54_Same f_chart_Length f_fraction_Add f_fraction_Cmp f_fraction_Of : Nat) : AC := (.seq (.ops false [⟨some 59, none, .mv (.t 0)⟩, ⟨some 60, none, .call f_chart_Not [(.t 59)]⟩, ⟨some 58, none, .mv (.t 60)⟩, ⟨some 61, none, .ext 0 (.t 58)⟩, ⟨some 62, none, .ext 1 (.t 58)⟩, ⟨some 11, none, .mv (.t 61)⟩, ⟨some 12, none, .mv (.t 62)⟩])
 (.fg [0, 1, 5, 7, 8, 9, 10, 11, 12] (.seq (.ops false [⟨some 64, none, .mv (.t 0)⟩, ⟨some 65, none, .ld none 3 true (.t 5)⟩, ⟨some 66, none, .call f_chart_Shift [(.t 64), (.t 65)]⟩, ⟨some 63, none, .mv (.t 66)⟩, ⟨some 67, none, .ext 0 (.t 63)⟩, ⟨some 68, none, .ext 1 (.t 63)⟩, ⟨some 13, none, .mv (.t 67)⟩, ⟨some 14, none, .mv (.t 68)⟩])
 (.fg [0, 1, 5, 7, 8, 9, 10, 11, 12, 13, 14] (.seq (.ops false [⟨some 70, none, .mv (.t 13)⟩, ⟨some 71, none, .ld none 3 true (.t 5)⟩, ⟨some 72, none, .call f_fraction_Neg [(.t 71)]⟩, ⟨some 73, none, .call f_chart_Shift [(.t 70), (.t 72)]⟩, ⟨some 69, none, .mv (.t 73)⟩, ⟨some 74, none, .ext 0 (.t 69)⟩, ⟨some 75, none, .ext 1 (.t 69)⟩, ⟨some 15, none, .mv (.t 74)⟩, ⟨some 16, none, .mv (.t 75)⟩])
 (.fg [0, 1, 7, 8, 9, 10, 11, 12, 13, 14, 15, 16] (.seq (.ops false [⟨some 77, none, .mv (.t 0)⟩, ⟨some 78, none, .call f_chart_Norm [(.t 77)]⟩, ⟨some 76, none, .mv (.t 78)⟩, ⟨some 79, none, .ext 0 (.t 76)⟩, ⟨some 80, none, .ext 1 (.t 76)⟩, ⟨some 17, none, .mv (.t 79)⟩, ⟨some 18, none, .mv (.t 80)⟩])
 (.fg [0, 1, 7, 8, 9, 10, 11, 12, 13, 14, 15, 16, 17, 18] (ac_linkworklaw54_ChartLengths_c3 f_linkworklaw54_awake f_linkworklaw54_valid f_linkworklaw54_long f_linkworkref02_Valid f_chart_Union f_chart_Meet f_chart_Not f_chart_Shift f_fraction_Neg f_chart_Norm f_linkworkref54_Same f_chart_Length f_fraction_Add f_fraction_Cmp f_fraction_Of)))))))))
theorem ac_linkworklaw54_ChartLengths_c4_e {f_linkworklaw54_awake f_linkworklaw54_valid f_linkworklaw54_long f_linkworkref02_Valid f_chart_Union f_chart_Meet f_chart_Not f_chart_Shift f_fraction_Neg f_chart_Norm f_linkworkref54_Same f_chart_Length f_fraction_Add f_fraction_Cmp f_fraction_Of : Nat} (Γ : Nat → Spec) (Q : Ex → S → Prop) (s : S) : wpA Γ (ac_linkworklaw54_ChartLengths_c4 f_linkworklaw54_awake f_linkworklaw54_valid f_linkworklaw54_long f_linkworkref02_Valid f_chart_Union f_chart_Meet f_chart_Not f_chart_Shift f_fraction_Neg f_chart_Norm f_linkworkref54_Same f_chart_Length f_fraction_Add f_fraction_Cmp f_fraction_Of) Q s = wpA Γ (.seq (.ops false [⟨some 59, none, .mv (.t 0)⟩, ⟨some 60, none, .call f_chart_Not [(.t 59)]⟩, ⟨some 58, none, .mv (.t 60)⟩, ⟨some 61, none, .ext 0 (.t 58)⟩, ⟨some 62, none, .ext 1 (.t 58)⟩, ⟨some 11, none, .mv (.t 61)⟩, ⟨some 12, none, .mv (.t 62)⟩])
 (.fg [0, 1, 5, 7, 8, 9, 10, 11, 12] (.seq (.ops false [⟨some 64, none, .mv (.t 0)⟩, ⟨some 65, none, .ld none 3 true (.t 5)⟩, ⟨some 66, none, .call f_chart_Shift [(.t 64), (.t 65)]⟩, ⟨some 63, none, .mv (.t 66)⟩, ⟨some 67, none, .ext 0 (.t 63)⟩, ⟨some 68, none, .ext 1 (.t 63)⟩, ⟨some 13, none, .mv (.t 67)⟩, ⟨some 14, none, .mv (.t 68)⟩])
 (.fg [0, 1, 5, 7, 8, 9, 10, 11, 12, 13, 14] (.seq (.ops false [⟨some 70, none, .mv (.t 13)⟩, ⟨some 71, none, .ld none 3 true (.t 5)⟩, ⟨some 72, none, .call f_fraction_Neg [(.t 71)]⟩, ⟨some 73, none, .call f_chart_Shift [(.t 70), (.t 72)]⟩, ⟨some 69, none, .mv (.t 73)⟩, ⟨some 74, none, .ext 0 (.t 69)⟩, ⟨some 75, none, .ext 1 (.t 69)⟩, ⟨some 15, none, .mv (.t 74)⟩, ⟨some 16, none, .mv (.t 75)⟩])
 (.fg [0, 1, 7, 8, 9, 10, 11, 12, 13, 14, 15, 16] (.seq (.ops false [⟨some 77, none, .mv (.t 0)⟩, ⟨some 78, none, .call f_chart_Norm [(.t 77)]⟩, ⟨some 76, none, .mv (.t 78)⟩, ⟨some 79, none, .ext 0 (.t 76)⟩, ⟨some 80, none, .ext 1 (.t 76)⟩, ⟨some 17, none, .mv (.t 79)⟩, ⟨some 18, none, .mv (.t 80)⟩])
 (.fg [0, 1, 7, 8, 9, 10, 11, 12, 13, 14, 15, 16, 17, 18] (ac_linkworklaw54_ChartLengths_c3 f_linkworklaw54_awake f_linkworklaw54_valid f_linkworklaw54_long f_linkworkref02_Valid f_chart_Union f_chart_Meet f_chart_Not f_chart_Shift f_fraction_Neg f_chart_Norm f_linkworkref54_Same f_chart_Length f_fraction_Add f_fraction_Cmp f_fraction_Of))))))))) Q s := eq_of_heq (HEq.refl _)
attribute [go_sem ↓] ac_linkworklaw54_ChartLengths_c4_e
attribute [go_sem] ac_linkworklaw54_ChartLengths_c4_e

def ac_linkworklaw54_ChartLengths_c5 (f_linkworklaw54_awake f_linkworklaw54_valid f_linkworklaw54_long f_linkworkref02_Valid f_chart_Union f_chart_Meet f_chart_Not f_chart_Shift f_fraction_Neg f_chart_Norm f_linkworkref54_Same f_chart_Length f_fraction_Add f_fraction_Cmp f_fraction_Of : Nat) : AC := (.seq (.seq (.ops false [⟨some 24, none, .call f_linkworklaw54_awake []⟩, ⟨some 25, none, .un .not (.t 24)⟩, ⟨some 26, none, .mv (.t 25)⟩, ⟨some 27, some (26, false), .mv (.t 0)⟩, ⟨some 28, some (26, false), .call f_linkworklaw54_valid [(.t 27)]⟩, ⟨some 29, some (26, false), .un .not (.t 28)⟩, ⟨some 30, none, .pick (.t 26) (.c (.one (.lit (.bool true)))) (.t 29)⟩, ⟨some 31, none, .mv (.t 30)⟩, ⟨some 32, some (31, false), .mv (.t 1)⟩, ⟨some 33, some (31, false), .call f_linkworklaw54_valid [(.t 32)]⟩, ⟨some 34, some (31, false), .un .not (.t 33)⟩, ⟨some 35, none, .pick (.t 31) (.c (.one (.lit (.bool true)))) (.t 34)⟩, ⟨some 36, none, .mv (.t 35)⟩, ⟨some 37, some (36, false), .ld none 3 true (.t 5)⟩, ⟨some 38, some (36, false), .call f_linkworklaw54_long [(.t 37)]⟩, ⟨some 39, none, .pick (.t 36) (.c (.one (.lit (.bool true)))) (.t 38)⟩, ⟨some 40, none, .mv (.t 39)⟩, ⟨some 41, some (40, false), .ld none 3 true (.t 5)⟩, ⟨some 42, some (40, false), .call f_linkworkref02_Valid [(.t 41)]⟩, ⟨some 43, some (40, false), .un .not (.t 42)⟩, ⟨some 44, none, .pick (.t 40) (.c (.one (.lit (.bool true)))) (.t 43)⟩])
 (.fg [0, 1, 5, 44] (.cond (.t 44) (.seq (.ops false [⟨some 45, none, .call f_linkworklaw54_awake []⟩, ⟨some 6, none, .mv (.t 45)⟩])
 .ret) .skip)))
 (.fg [0, 1, 5] (.seq (.ops false [⟨some 47, none, .mv (.t 0)⟩, ⟨some 48, none, .mv (.t 1)⟩, ⟨some 49, none, .call f_chart_Union [(.t 47), (.t 48)]⟩, ⟨some 46, none, .mv (.t 49)⟩, ⟨some 50, none, .ext 0 (.t 46)⟩, ⟨some 51, none, .ext 1 (.t 46)⟩, ⟨some 7, none, .mv (.t 50)⟩, ⟨some 8, none, .mv (.t 51)⟩])
 (.fg [0, 1, 5, 7, 8] (.seq (.ops false [⟨some 53, none, .mv (.t 0)⟩, ⟨some 54, none, .mv (.t 1)⟩, ⟨some 55, none, .call f_chart_Meet [(.t 53), (.t 54)]⟩, ⟨some 52, none, .mv (.t 55)⟩, ⟨some 56, none, .ext 0 (.t 52)⟩, ⟨some 57, none, .ext 1 (.t 52)⟩, ⟨some 9, none, .mv (.t 56)⟩, ⟨some 10, none, .mv (.t 57)⟩])
 (.fg [0, 1, 5, 7, 8, 9, 10] (ac_linkworklaw54_ChartLengths_c4 f_linkworklaw54_awake f_linkworklaw54_valid f_linkworklaw54_long f_linkworkref02_Valid f_chart_Union f_chart_Meet f_chart_Not f_chart_Shift f_fraction_Neg f_chart_Norm f_linkworkref54_Same f_chart_Length f_fraction_Add f_fraction_Cmp f_fraction_Of)))))))
theorem ac_linkworklaw54_ChartLengths_c5_e {f_linkworklaw54_awake f_linkworklaw54_valid f_linkworklaw54_long f_linkworkref02_Valid f_chart_Union f_chart_Meet f_chart_Not f_chart_Shift f_fraction_Neg f_chart_Norm f_linkworkref54_Same f_chart_Length f_fraction_Add f_fraction_Cmp f_fraction_Of : Nat} (Γ : Nat → Spec) (Q : Ex → S → Prop) (s : S) : wpA Γ (ac_linkworklaw54_ChartLengths_c5 f_linkworklaw54_awake f_linkworklaw54_valid f_linkworklaw54_long f_linkworkref02_Valid f_chart_Union f_chart_Meet f_chart_Not f_chart_Shift f_fraction_Neg f_chart_Norm f_linkworkref54_Same f_chart_Length f_fraction_Add f_fraction_Cmp f_fraction_Of) Q s = wpA Γ (.seq (.seq (.ops false [⟨some 24, none, .call f_linkworklaw54_awake []⟩, ⟨some 25, none, .un .not (.t 24)⟩, ⟨some 26, none, .mv (.t 25)⟩, ⟨some 27, some (26, false), .mv (.t 0)⟩, ⟨some 28, some (26, false), .call f_linkworklaw54_valid [(.t 27)]⟩, ⟨some 29, some (26, false), .un .not (.t 28)⟩, ⟨some 30, none, .pick (.t 26) (.c (.one (.lit (.bool true)))) (.t 29)⟩, ⟨some 31, none, .mv (.t 30)⟩, ⟨some 32, some (31, false), .mv (.t 1)⟩, ⟨some 33, some (31, false), .call f_linkworklaw54_valid [(.t 32)]⟩, ⟨some 34, some (31, false), .un .not (.t 33)⟩, ⟨some 35, none, .pick (.t 31) (.c (.one (.lit (.bool true)))) (.t 34)⟩, ⟨some 36, none, .mv (.t 35)⟩, ⟨some 37, some (36, false), .ld none 3 true (.t 5)⟩, ⟨some 38, some (36, false), .call f_linkworklaw54_long [(.t 37)]⟩, ⟨some 39, none, .pick (.t 36) (.c (.one (.lit (.bool true)))) (.t 38)⟩, ⟨some 40, none, .mv (.t 39)⟩, ⟨some 41, some (40, false), .ld none 3 true (.t 5)⟩, ⟨some 42, some (40, false), .call f_linkworkref02_Valid [(.t 41)]⟩, ⟨some 43, some (40, false), .un .not (.t 42)⟩, ⟨some 44, none, .pick (.t 40) (.c (.one (.lit (.bool true)))) (.t 43)⟩])
 (.fg [0, 1, 5, 44] (.cond (.t 44) (.seq (.ops false [⟨some 45, none, .call f_linkworklaw54_awake []⟩, ⟨some 6, none, .mv (.t 45)⟩])
 .ret) .skip)))
 (.fg [0, 1, 5] (.seq (.ops false [⟨some 47, none, .mv (.t 0)⟩, ⟨some 48, none, .mv (.t 1)⟩, ⟨some 49, none, .call f_chart_Union [(.t 47), (.t 48)]⟩, ⟨some 46, none, .mv (.t 49)⟩, ⟨some 50, none, .ext 0 (.t 46)⟩, ⟨some 51, none, .ext 1 (.t 46)⟩, ⟨some 7, none, .mv (.t 50)⟩, ⟨some 8, none, .mv (.t 51)⟩])
 (.fg [0, 1, 5, 7, 8] (.seq (.ops false [⟨some 53, none, .mv (.t 0)⟩, ⟨some 54, none, .mv (.t 1)⟩, ⟨some 55, none, .call f_chart_Meet [(.t 53), (.t 54)]⟩, ⟨some 52, none, .mv (.t 55)⟩, ⟨some 56, none, .ext 0 (.t 52)⟩, ⟨some 57, none, .ext 1 (.t 52)⟩, ⟨some 9, none, .mv (.t 56)⟩, ⟨some 10, none, .mv (.t 57)⟩])
 (.fg [0, 1, 5, 7, 8, 9, 10] (ac_linkworklaw54_ChartLengths_c4 f_linkworklaw54_awake f_linkworklaw54_valid f_linkworklaw54_long f_linkworkref02_Valid f_chart_Union f_chart_Meet f_chart_Not f_chart_Shift f_fraction_Neg f_chart_Norm f_linkworkref54_Same f_chart_Length f_fraction_Add f_fraction_Cmp f_fraction_Of))))))) Q s := eq_of_heq (HEq.refl _)
attribute [go_sem ↓] ac_linkworklaw54_ChartLengths_c5_e
attribute [go_sem] ac_linkworklaw54_ChartLengths_c5_e

/-- linkwork/linkworklaw54.ChartLengths (171) [.tmp 6] -/
def ac_linkworklaw54_ChartLengths (f_linkworklaw54_awake f_linkworklaw54_valid f_linkworklaw54_long f_linkworkref02_Valid f_chart_Union f_chart_Meet f_chart_Not f_chart_Shift f_fraction_Neg f_chart_Norm f_linkworkref54_Same f_chart_Length f_fraction_Add f_fraction_Cmp f_fraction_Of : Nat) : AC := (.seq (.ops false [⟨some 5, none, .box 3 (.t 2)⟩, ⟨some 6, none, .mv (.c (.one (.lit (.bool false))))⟩])
 (.fg [0, 1, 5] (ac_linkworklaw54_ChartLengths_c5 f_linkworklaw54_awake f_linkworklaw54_valid f_linkworklaw54_long f_linkworkref02_Valid f_chart_Union f_chart_Meet f_chart_Not f_chart_Shift f_fraction_Neg f_chart_Norm f_linkworkref54_Same f_chart_Length f_fraction_Add f_fraction_Cmp f_fraction_Of)))


set_option maxHeartbeats 4000000 in
theorem lLengths_sound (hΓ : Holds P Γ) {f fw fv fl fr fu fm fn fS fg fN fs fL fa fc fo tE m : Nat} (hm : 80 ≤ m) (hw : Γ fw = .dat true lawake_G) (hv : Γ fv = .dat true rvalidL_G) (hl : Γ fl = .dat true rlong_G) (hr : Γ fr = .dat true rvalid_G) (hu : Γ fu = .dat false (cUnion_G tE m)) (hme : Γ fm = .dat false (cMeet_G tE m)) (hn : Γ fn = .dat false (cNot_G tE m)) (hS : Γ fS = .dat false (cShift_G tE m)) (hg : Γ fg = .dat false rneg_G) (hN : Γ fN = .dat false (cNorm_G tE m)) (hs : Γ fs = .dat true rsame_G)
    (hL : Γ fL = .dat false (cLength_G tE m)) (ha : Γ fa = .dat false radd_G) (hcm : Γ fc = .dat true rcmp_G) (ho : Γ fo = .dat false rof_G)
    (hc : check P f = some (171, (ac_linkworklaw54_ChartLengths fw fv fl fr fu fm fn fS fg fN fs fL fa fc fo).strip, [.tmp 6])) : Sound P f (.dat true lLengths_G) := by
  refine sound_dat hc lLengths_good hΓ (fun args K hcl hfi hG => ?_)
  match args, hG with
  | [a, b, c], hG =>
    obtain ⟨l, rfl, hwl, k, rfl, hwk, y, rfl, hy, hol, hok, hyl, hK⟩ := hG
    refine ⟨by simp, ?_⟩
    have hol1 : okAs 1073741824 l := okAs_mono hol (by decide)
    have hok1 : okAs 1073741824 k := okAs_mono hok (by decide)
    have hyl1 : rl y ≤ 4294967296 := by omega
    have hyl2 : rl y ≤ 10000000 := by omega
    cases hvl : validL l with
    | false =>
      simp only [go_sem, ↓reduceIte, Nat.reduceEqDiff, Nat.reduceAdd, Nat.reduceLT, Nat.reduceLeDiff, Int.reduceToNat, Nat.reducePow, Nat.reduceMul, reduceCtorEq, ac_linkworklaw54_ChartLengths, hw, hv, hl, hr, hu, hme, hn, hS, hg, hN, hs, hL, ha, hcm, ho, hvl]
      exact ⟨hwl, hol1, hK⟩
    | true =>
    cases hvk : validL k with
    | false =>
      simp only [go_sem, ↓reduceIte, Nat.reduceEqDiff, Nat.reduceAdd, Nat.reduceLT, Nat.reduceLeDiff, Int.reduceToNat, Nat.reducePow, Nat.reduceMul, reduceCtorEq, ac_linkworklaw54_ChartLengths, hw, hv, hl, hr, hu, hme, hn, hS, hg, hN, hs, hL, ha, hcm, ho, hvl, hvk]
      exact ⟨hwl, hol1, hwk, hok1, hK⟩
    | true =>
    cases hlo : longR y with
    | true =>
      simp only [go_sem, ↓reduceIte, Nat.reduceEqDiff, Nat.reduceAdd, Nat.reduceLT, Nat.reduceLeDiff, Int.reduceToNat, Nat.reducePow, Nat.reduceMul, reduceCtorEq, ac_linkworklaw54_ChartLengths, hw, hv, hl, hr, hu, hme, hn, hS, hg, hN, hs, hL, ha, hcm, ho, hvl, hvk, hy, hyl1, hlo]
      exact ⟨hwl, hol1, hwk, hok1, hK⟩
    | false =>
    cases hvy : vldR y with
    | false =>
      simp only [go_sem, ↓reduceIte, Nat.reduceEqDiff, Nat.reduceAdd, Nat.reduceLT, Nat.reduceLeDiff, Int.reduceToNat, Nat.reducePow, Nat.reduceMul, reduceCtorEq, ac_linkworklaw54_ChartLengths, hw, hv, hl, hr, hu, hme, hn, hS, hg, hN, hs, hL, ha, hcm, ho, hvl, hvk, hy, hyl1, hlo, hvy]
      exact ⟨hwl, hol1, hwk, hok1, hK⟩
    | true =>
    obtain ⟨kl, nl⟩ := validL_t hvl
    obtain ⟨kk, nk⟩ := validL_t hvk
    have kb := chk_20 kl kk
    have ql := nq_val kl nl hol
    have qk := nq_val kk nk hok
    obtain ⟨pl, il⟩ := chk_val kl
    obtain ⟨pk, ik⟩ := chk_val kk
    have ry : rz (rv y) ≤ 1048576 := Nat.le_trans (rz_rv hy) hyl
    have pU : Pos (vals l ++ vals k) := fun q hq => (List.mem_append.1 hq).elim (pl q) (pk q)
    have iU : In01 (vals l ++ vals k) := fun q hq => (List.mem_append.1 hq).elim (il q) (ik q)
    have qU : NQ 1048576 40 (nrm (vals l ++ vals k)) := nq_nrm pU iU (by simp [vals]; omega) (fun q hq => (List.mem_append.1 hq).elim (rzQ_vals hol q) (rzQ_vals hok q))
    have qM := nq_meet ql qk
    have qN := nq_not ql (by decide)
    have qS := nq_shift (y := rv y) (n := 20) pl il (by simpa [vals] using nl) (rzQ_vals hol) ry
    -- the lengths
    have u1 := mu_union ql.nm qk.nm qU.nm fun x => by rw [(nrm_ok pU).2.2, memL_append, (nrm_ok pl).2.2, (nrm_ok pk).2.2]
    have u2 := mu_not ql.pos ql.ap ql.in1
    have u3 := mu_shift (y := rv y) pl il
    have bk := shift_back (y := rv y) pl il
    obtain ⟨U, hU⟩ : ∃ U, U = nrm (vals l ++ vals k) := ⟨_, rfl⟩
    obtain ⟨S, hSS⟩ : ∃ S, S = nrm (shL (rv y) (vals l)) := ⟨_, rfl⟩
    obtain ⟨W, hW⟩ : ∃ W, W = nrm (vals l) := ⟨_, rfl⟩
    obtain ⟨V, hV⟩ : ∃ V, V = nrm (vals k) := ⟨_, rfl⟩
    rw [← hW] at ql qM qN u1 u2 u3 bk; rw [← hV] at qk qM u1; rw [← hU] at qU u1; rw [← hSS] at qS u3 bk
    obtain ⟨M, hM⟩ : ∃ M, M = meetL W V := ⟨_, rfl⟩
    obtain ⟨N, hNN⟩ : ∃ N, N = notL W := ⟨_, rfl⟩
    rw [← hM] at qM u1; rw [← hNN] at qN u2
    have r1 := qU.res (by decide)
    have r2 := qM.res (by decide)
    have r3 := qN.res (by decide)
    have c1 := qU.cod (by decide)
    have c2 := qM.cod (by decide)
    have c3 := qN.cod (by decide)
    have kU := qU.chk (by decide)
    have kM := qM.chk (by decide)
    have kN := qN.chk (by decide)
    have kS := qS.chk (by decide)
    have o1 : shOut l y = S := by
      have := qS.res (by decide)
      unfold res at this; rw [if_pos rfl] at this
      unfold shOut; rw [if_pos ⟨kl, hvy⟩, ← hSS]; exact this
    have o2 : shCode l y = 0 := by
      have := qS.cod (by decide)
      unfold cod at this; rw [if_pos rfl] at this
      unfold shCode; rw [if_pos kl, if_pos hvy, ← hSS]; exact this
    have o3 : shOut (S.map acan) (rcan (-rv y)) = W := by
      have := ql.res (by decide)
      unfold res at this; rw [if_pos rfl] at this
      unfold shOut; rw [if_pos ⟨kS, vld_rcan _⟩, vals_can, rv_rcan, bk]; exact this
    have o4 : shCode (S.map acan) (rcan (-rv y)) = 0 := by
      have := ql.cod (by decide)
      unfold cod at this; rw [if_pos rfl] at this
      unfold shCode; rw [if_pos kS, if_pos (vld_rcan _), vals_can, rv_rcan, bk]; exact this
    obtain ⟨R, hR⟩ : ∃ R, R = [l, k, U.map acan, M.map acan, N.map acan, S.map acan] := ⟨_, rfl⟩
    have hrow : [[C.slice (l.map aC)], [C.slice (k.map aC)], [C.slice ((U.map acan).map aC)], [C.slice ((M.map acan).map aC)], [C.slice ((N.map acan).map aC)], [C.slice ((S.map acan).map aC)]] = R.map lC := by rw [hR]; rfl
    have hRl : R.length = 6 := by rw [hR]; rfl
    simp only [go_sem, ↓reduceIte, Nat.reduceEqDiff, Nat.reduceAdd, Nat.reduceLT, Nat.reduceLeDiff, Int.reduceToNat, Nat.reducePow, Nat.reduceMul, reduceCtorEq, ac_linkworklaw54_ChartLengths, hw, hv, hl, hr, hu, hme, hn, hS, hg, hN, hs, hL, ha, hcm, ho, hvl, hvk, hy, hyl1, hyl2, hlo, hvy, kl, kk, kb, ← hU, ← hW, ← hV, ← hM, ← hNN, r1, r2, r3, c1, c2, c3, o1, o2, o3, o4, errV_0, vals_can, rz_neg, hrow, hRl]
    refine ⟨hwl, hol1, hwk, hok1, hwl, hwk, by omega, okAs_mono hol (by decide), okAs_mono hok (by decide), hwl, hwk, by omega, okAs_mono hol (by decide), okAs_mono hok (by decide), hwl, by omega, okAs_mono hol (by decide), hwl, by omega, okAs_mono hol (by decide),
      WLA_cans _, fun _ => by have := qS.len; omega, qS.ok (by decide), by omega, hwl, by omega, okAs_mono hol (by decide), WLA_cans _, WLA_cans _, ql.ok (by decide), ql.ok (by decide), ?_⟩
    clear hw hv hl hr hu hme hn hS hg hN hs
    -- what the six charts have
    obtain ⟨T, hT⟩ : ∃ T, T = R.map fun c => rcan (lenQ c) := ⟨_, rfl⟩
    have hTl : T.length = 6 := by rw [hT, List.length_map, hRl]
    have good : ∀ c ∈ R, chk [c] = 0 ∧ c.length ≤ 64 ∧ okAs 10000000 c ∧ ∀ z ∈ c, WLA z := by
      have gq : ∀ {b n : Nat} {L : List Q2}, NQ b n L → b ≤ 10000000 → n ≤ 64 → chk [L.map acan] = 0 ∧ (L.map acan).length ≤ 64 ∧ okAs 10000000 (L.map acan) ∧ ∀ z ∈ L.map acan, WLA z := fun h hb hn =>
        ⟨h.chk hn, by rw [List.length_map]; exact Nat.le_trans h.len hn, h.ok hb, WLA_cans _⟩
      intro c hc
      rw [hR] at hc
      simp only [List.mem_cons, List.not_mem_nil, or_false] at hc
      rcases hc with rfl | rfl | rfl | rfl | rfl | rfl
      · exact ⟨kl, by omega, okAs_mono hol (by decide), hwl⟩
      · exact ⟨kk, by omega, okAs_mono hok (by decide), hwk⟩
      · exact gq qU (by decide) (by decide)
      · exact gq qM (by decide) (by decide)
      · exact gq qN (by decide) (by decide)
      · exact gq qS (by decide) (by decide)
    have rzl : ∀ c ∈ R, rz (lenQ c) ≤ 1300000000 := by
      intro c hc
      obtain ⟨g1, g2, g3, g4⟩ := good c hc
      unfold lenQ
      rw [if_pos g1]
      have h1 := rz_mu (nrm (vals c)) (rzQ_nrm (rzQ_vals g3))
      have h2 : (nrm (vals c)).length ≤ 64 := Nat.le_trans (nrm_len _) (by simpa [vals] using g2)
      have h3 := Nat.mul_le_mul_right (2 * 10000000 + 4) h2
      omega
    refine wpA_loop (fun p : Nat => match p with
        | 0 => ⟨mkV [(19, .one .emp), (115, .one (.full (R.map lC))), (116, .one (.lit (.int .i64 6))), (117, .one (.lit (.int .i64 0)))], mkH []⟩
        | p + 1 => ⟨mkV [(19, .one (.own 131 1 3 0 (p + 1))), (115, .one (.full (R.map lC))), (116, .one (.lit (.int .i64 6))), (117, .one (.lit (.int .i64 (p + 1 : Nat))))], mkH [(131, ⟨1, some ⟨(T.take (p + 1)).map rC, 3, true⟩⟩)]⟩)
      (fun p => p ≤ 6) (fun p => 6 - p) 0 ?_ ?_ ?_
    · exact weak_lit (by simp [okS, okV, okC, okL, okH, okB, okE, mkV_cons, mkV_nil, mkH_cons, mkH_nil, wsA, ws]) trivial
    · decide
    · intro p hp
      by_cases hp6 : p < 6
      · obtain ⟨c, hcc⟩ : ∃ c, R.getD p [] = c := ⟨_, rfl⟩
        have hc0 : R[p]? = some c := by rw [← hcc, List.getD_eq_getElem?_getD, List.getElem?_eq_getElem (by omega)]; rfl
        obtain ⟨g1, g2, g3, g4⟩ := good c (List.mem_of_getElem? hc0)
        have hTp : T.take (p + 1) = T.take p ++ [rcan (lenQ c)] := by
          rw [List.take_add_one, hT, List.getElem?_map, hc0]; rfl
        have hcm' : c.length ≤ m := by omega
        match p, hp6, hcc, hTp with
        | 0, hp6, hcc, hTp =>
          have h06 : (0 : Int) < 6 := by decide
          have h01 : (0 : Int) + 1 = 1 := by decide
          have h00 : (0 : Int) ≤ 0 := by decide
          simp only [go_sem, ↓reduceIte, Nat.reduceEqDiff, Nat.reduceAdd, Nat.reduceLT, Nat.reduceLeDiff, Int.reduceToNat, Nat.reducePow, Nat.reduceMul, reduceCtorEq, hL, ha, hcm, ho, hRl, hcc, g1, errV_0, List.length_append, h06, h01, h00]
          refine ⟨g4, hcm', g3, by simp, by decide, 1, weak_lit (by simp [okS, okV, okC, okL, okH, okB, okE, mkV_cons, mkV_nil, mkH_cons, mkH_nil, wsA, ws]) ?_, by omega, by omega⟩
          refine ⟨?_, trivial⟩
          rw [hTp]
          exact okB_rC (by simp [rC, List.take_take])
        | p + 1, hp6, hcc, hTp =>
          have hp6' : ((p + 1 : Nat) : Int) < 6 := by omega
          simp only [go_sem, ↓reduceIte, Nat.reduceEqDiff, Nat.reduceAdd, Nat.reduceLT, Nat.reduceLeDiff, Int.reduceToNat, Nat.reducePow, Nat.reduceMul, reduceCtorEq, hL, ha, hcm, ho, hRl, hcc, hp6, hp6', g1, errV_0, List.length_append]
          refine ⟨g4, hcm', g3, by simp, ⟨by rw [List.length_take]; omega, by omega⟩, by omega, p + 1 + 1, weak_lit (by simp [okS, okV, okC, okL, okH, okB, okE, mkV_cons, mkV_nil, mkH_cons, mkH_nil, wsA, ws]) ?_, by omega, by omega⟩
          refine ⟨?_, trivial⟩
          rw [hTp]
          exact okB_rC (by simp [rC, List.take_take])
      · obtain rfl : p = 6 := by omega
        have e6 : T.take (5 + 1) = T := List.take_of_length_le (by omega)
        have t0 : T.getD 0 (rcan 0) = rcan (mu W) := by rw [hT, hR]; simp [lenQ, kl, ← hW]
        have t1 : T.getD 1 (rcan 0) = rcan (mu V) := by rw [hT, hR]; simp [lenQ, kk, ← hV]
        have t2 : T.getD 2 (rcan 0) = rcan (mu U) := by rw [hT, hR]; simp [lenQ, kU, vals_can, qU.nrm]
        have t3 : T.getD 3 (rcan 0) = rcan (mu M) := by rw [hT, hR]; simp [lenQ, kM, vals_can, qM.nrm]
        have t4 : T.getD 4 (rcan 0) = rcan (mu N) := by rw [hT, hR]; simp [lenQ, kN, vals_can, qN.nrm]
        have t5 : T.getD 5 (rcan 0) = rcan (mu S) := by rw [hT, hR]; simp [lenQ, kS, vals_can, qS.nrm]
        have bz : ∀ i q, i < 6 → T.getD i (rcan 0) = rcan q → rz q ≤ 1300000000 := by
          intro i q hi hq
          have hi' : i < R.length := by omega
          have := rzl (R[i]) (List.getElem_mem hi')
          rw [hT, List.getD_eq_getElem?_getD, List.getElem?_map, List.getElem?_eq_getElem hi'] at hq
          simp only [Option.map_some, Option.getD_some] at hq
          have := congrArg rv hq
          rw [rv_rcan, rv_rcan] at this
          rw [← this]; assumption
        have z0 := bz 0 _ (by decide) t0
        have z1 := bz 1 _ (by decide) t1
        have z2 := bz 2 _ (by decide) t2
        have z3 := bz 3 _ (by decide) t3
        have z4 := bz 4 _ (by decide) t4
        have z5 := bz 5 _ (by decide) t5
        have w0 : rz (mu W) ≤ 4294967296 := by omega
        have w1 : rz (mu V) ≤ 4294967296 := by omega
        have w2 : rz (mu U) ≤ 4294967296 := by omega
        have w3 : rz (mu M) ≤ 4294967296 := by omega
        have w4 : rz (mu N) ≤ 4294967296 := by omega
        have w5 : rz (mu S) ≤ 4294967296 := by omega
        have w6 : rz (mu U + mu M) ≤ 4294967296 := by have := rz_add (mu U) (mu M); omega
        have w7 : rz 1 ≤ 4294967296 := by have := rz_one; omega
        have q1 : ordQ (mu U + mu M) (mu U + mu M) = 0 := ordQ_eq0.2 rfl
        have q2 : ordQ 1 1 = 0 := ordQ_eq0.2 rfl
        have q3 : ordQ (mu W) (mu W) = 0 := ordQ_eq0.2 rfl
        have i1 : ((1 : Int) : Rat) = 1 := rfl
        have hp6' : ¬ (((5 + 1 : Nat) : Int) < 6) := by decide
        simp only [go_sem, ↓reduceIte, Nat.reduceEqDiff, Nat.reduceAdd, Nat.reduceLT, Nat.reduceLeDiff, Int.reduceToNat, Nat.reducePow, Nat.reduceMul, reduceCtorEq, hL, ha, hcm, ho, hRl, hp6', e6, hTl, getE_rC, t0, t1, t2, t3, t4, t5, rC_eq, w0, w1, w2, w3, w4, w5, w6, w7, u1, u2, u3, q1, q2, q3, i1]
        exact ⟨by omega, by omega, by omega, by omega, by omega, by omega, by omega, by omega, by omega, by omega, hK⟩

end Go.Abs
end
