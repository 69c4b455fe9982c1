/-
  Parts of the proof, merged: RatE, PoseP, PoseB, PoseC, ChartE, ChartF, ChartG, ChartQ, ChartH, ChartR.
-/
import Derived.Test.YtobkolmneiiheaaGreatDoorM6
set_option linter.unusedVariables false
set_option linter.unusedSimpArgs false
section
set_option linter.unusedVariables false
set_option linter.unusedSimpArgs false
set_option maxRecDepth 100000
namespace Go.Num
open Go.Abs
theorem rz_0 : rz 0 = 0 := by unfold rz; rw [rcan_zero]; rfl
theorem rz_1 : rz 1 ≤ 2 := by
 have := rz_int 1
 have h1 : zs 1 ≤ 2 := zs_of (by decide)
 have e : ((1 : Int) : Rat) = 1 := rfl
 rw [e] at this
 omega
theorem rz_mul (p q : Rat) : rz (p * q) ≤ rz p + rz q + 2 := by
 rw [← mul_parts]
 have n1 := rz_num p
 have n2 := rz_num q
 have d1 := rz_den p
 have d2 := rz_den q
 have m1 := zs_mul p.num q.num
 have m2 := zs_mul (p.den : Int) (q.den : Int)
 refine rz_divInt (by exact Int.mul_ne_zero (den_ne _) (den_ne _)) (by omega) (by omega)
theorem div_parts {p q : Rat} (hq : q ≠ 0) : Rat.divInt (p.num * q.den) (p.den * q.num) = p / q := by
 have hn : q.num ≠ 0 := num_ne hq
 have e1 : (p.num : Rat) / (p.den : Rat) = p := by have := Rat.num_divInt_den p; rw [Rat.divInt_eq_div] at this; exact this
 have e2 : (q.num : Rat) / (q.den : Rat) = q := by have := Rat.num_divInt_den q; rw [Rat.divInt_eq_div] at this; exact this
 have d1 : (p.den : Rat) ≠ 0 := by exact_mod_cast p.den_nz
 have d2 : (q.den : Rat) ≠ 0 := by exact_mod_cast q.den_nz
 have d3 : (q.num : Rat) ≠ 0 := by exact_mod_cast hn
 rw [Rat.divInt_eq_div]
 simp only [Rat.intCast_mul, Rat.intCast_natCast]
 have f1 : (p.num : Rat) = p * (p.den : Rat) := by grind
 have f2 : (q.num : Rat) = q * (q.den : Rat) := by grind
 rw [f1, f2]
 grind
theorem rz_div (p q : Rat) : rz (p / q) ≤ rz p + rz q + 2 := by
 by_cases hq : q = 0
 ·subst hq
  rw [Rat.div_def, Rat.inv_zero, Rat.mul_zero, rz_0]; omega
 ·rw [← div_parts hq]
  have n1 := rz_num p
  have n2 := rz_num q
  have d1 := rz_den p
  have d2 := rz_den q
  have m1 := zs_mul p.num (q.den : Int)
  have m2 := zs_mul (p.den : Int) q.num
  refine rz_divInt (by exact Int.mul_ne_zero (den_ne _) (num_ne hq)) (by omega) (by omega)
theorem div_eq (p q : Rat) : Rat.divInt (p.num * q.den) (p.den * q.num) = p / q := by
 by_cases hq : q = 0
 ·subst hq
  rw [show (0 : Rat).num = 0 from rfl, Int.mul_zero, Rat.divInt_zero, Rat.div_def, Rat.inv_zero, Rat.mul_zero]
 ·exact div_parts hq
end Go.Num
namespace Go.Abs
open Go.Num
variable {P : Program} {Γ : Nat → Spec}
def rQ (q : Rat) : AV := .agg [cb (rcan q), cn (rcan q), cd (rcan q)]
theorem rQ_eq (q : Rat) : rQ q = .agg [cb (rcan q), cn (rcan q), cd (rcan q)] := eq_of_heq (HEq.refl _)
attribute [go_sem] rQ_eq
attribute [go_sem ↓] rQ_eq
def rmul_G (l : List AV) (K : AV → Prop) : Prop :=
 match l with
 | [a, b] => onR (fun x => onR (fun y => rl x ≤ 4294967296 ∧ rl y ≤ 4294967296 ∧ K (rQ (rv x * rv y))) b) a
 | _ => False
theorem rmul_Ge (a b : AV) (K : AV → Prop) : rmul_G [a, b] K = (onR (fun x => onR (fun y => rl x ≤ 4294967296 ∧ rl y ≤ 4294967296 ∧ K (rQ (rv x * rv y))) b) a) := propext Iff.rfl
@[congr] theorem rmul_Gc {K : AV → Prop} {l l' : List AV} (h : l = l') : rmul_G l K = rmul_G l' K := by subst h; rfl
attribute [go_sem] rmul_Ge
attribute [go_sem ↓] rmul_Ge
theorem rmul_good : Good rmul_G := good_of fun as => by
 unfold rmul_G
 split
 ·exact (g_onR fun _ => (g_onR fun _ => (.and fun _ => (.and fun _ => (.ret _)))))
 ·exact .of fun K hk => hk.elim
def rfromE_G (tE : Nat) (l : List AV) (K : AV → Prop) : Prop :=
 match l with
 | [a, b] => onW (fun v => onW (fun w => zs (zv v) ≤ 17179869184 ∧ zs (zv w) ≤ 17179869184 ∧ K (.tup [rQ (Rat.divInt (zv v) (zv w)), errV tE (if zv w = 0 then 8 else 0)])) b) a
 | _ => False
theorem rfromE_Ge (tE : Nat) (a b : AV) (K : AV → Prop) : rfromE_G tE [a, b] K = (onW (fun v => onW (fun w => zs (zv v) ≤ 17179869184 ∧ zs (zv w) ≤ 17179869184 ∧ K (.tup [rQ (Rat.divInt (zv v) (zv w)), errV tE (if zv w = 0 then 8 else 0)])) b) a) := propext Iff.rfl
@[congr] theorem rfromE_Gc (tE : Nat) {K : AV → Prop} {l l' : List AV} (h : l = l') : rfromE_G tE l K = rfromE_G tE l' K := by subst h; rfl
attribute [go_sem] rfromE_Ge
attribute [go_sem ↓] rfromE_Ge
theorem rfromE_good (tE : Nat) : Good (rfromE_G tE) := good_of fun as => by
 unfold rfromE_G
 split
 ·exact (g_onW fun _ => (g_onW fun _ => (.and fun _ => (.and fun _ => (.ret _)))))
 ·exact .of fun K hk => hk.elim
def rdivE_G (tE : Nat) (l : List AV) (K : AV → Prop) : Prop :=
 match l with
 | [a, b] => onR (fun x => onR (fun y => rl x ≤ 4294967296 ∧ rl y ≤ 4294967296 ∧ K (.tup [rQ (rv x / rv y), errV tE (if rv y = 0 then 8 else 0)])) b) a
 | _ => False
theorem rdivE_Ge (tE : Nat) (a b : AV) (K : AV → Prop) : rdivE_G tE [a, b] K = (onR (fun x => onR (fun y => rl x ≤ 4294967296 ∧ rl y ≤ 4294967296 ∧ K (.tup [rQ (rv x / rv y), errV tE (if rv y = 0 then 8 else 0)])) b) a) := propext Iff.rfl
@[congr] theorem rdivE_Gc (tE : Nat) {K : AV → Prop} {l l' : List AV} (h : l = l') : rdivE_G tE l K = rdivE_G tE l' K := by subst h; rfl
attribute [go_sem] rdivE_Ge
attribute [go_sem ↓] rdivE_Ge
theorem rdivE_good (tE : Nat) : Good (rdivE_G tE) := good_of fun as => by
 unfold rdivE_G
 split
 ·exact (g_onR fun _ => (g_onR fun _ => (.and fun _ => (.and fun _ => (.ret _)))))
 ·exact .of fun K hk => hk.elim
def rfromN_G (l : List AV) (K : AV → Prop) : Prop :=
 match l with
 | [a, b] => onW (fun v => onW (fun w => zs (zv v) ≤ 17179869184 ∧ zs (zv w) ≤ 17179869184 ∧ K (.tup [rQ (Rat.divInt (zv v) (zv w)), .one (.lit (.int .i64 (if zv w = 0 then 8 else 0)))])) b) a
 | _ => False
theorem rfromN_Ge (a b : AV) (K : AV → Prop) : rfromN_G [a, b] K = (onW (fun v => onW (fun w => zs (zv v) ≤ 17179869184 ∧ zs (zv w) ≤ 17179869184 ∧ K (.tup [rQ (Rat.divInt (zv v) (zv w)), .one (.lit (.int .i64 (if zv w = 0 then 8 else 0)))])) b) a) := propext Iff.rfl
@[congr] theorem rfromN_Gc {K : AV → Prop} {l l' : List AV} (h : l = l') : rfromN_G l K = rfromN_G l' K := by subst h; rfl
attribute [go_sem] rfromN_Ge
attribute [go_sem ↓] rfromN_Ge
theorem rfromN_good : Good rfromN_G := good_of fun as => by
 unfold rfromN_G
 split
 ·exact (g_onW fun _ => (g_onW fun _ => (.and fun _ => (.and fun _ => (.ret _)))))
 ·exact .of fun K hk => hk.elim
def rdivN_G (l : List AV) (K : AV → Prop) : Prop :=
 match l with
 | [a, b] => onR (fun x => onR (fun y => rl x ≤ 1073741824 ∧ rl y ≤ 1073741824 ∧ K (.tup [rQ (rv x / rv y), .one (.lit (.int .i64 (if rv y = 0 then 8 else 0)))])) b) a
 | _ => False
theorem rdivN_Ge (a b : AV) (K : AV → Prop) : rdivN_G [a, b] K = (onR (fun x => onR (fun y => rl x ≤ 1073741824 ∧ rl y ≤ 1073741824 ∧ K (.tup [rQ (rv x / rv y), .one (.lit (.int .i64 (if rv y = 0 then 8 else 0)))])) b) a) := propext Iff.rfl
@[congr] theorem rdivN_Gc {K : AV → Prop} {l l' : List AV} (h : l = l') : rdivN_G l K = rdivN_G l' K := by subst h; rfl
attribute [go_sem] rdivN_Ge
attribute [go_sem ↓] rdivN_Ge
theorem rdivN_good : Good rdivN_G := good_of fun as => by
 unfold rdivN_G
 split
 ·exact (g_onR fun _ => (g_onR fun _ => (.and fun _ => (.and fun _ => (.ret _)))))
 ·exact .of fun K hk => hk.elim
def ac_fraction_Mul (f0 f1 f2 : Nat) : AC := (.seq (.ops false [.u 2 (.box 3 (.t 0)), .u 3 (.box 3 (.t 1)), .u 4 (.alloc [(.lit (.bool false)), .emp, .emp])])
 (.fg [2, 3, 4] (.seq (.ops false [.u 10 (.ld none 3 true (.t 2)), .u 11 (.call f0 [(.t 10)]), .m 9 (.t 11), .u 12 (.ext 0 (.t 9)), .u 13 (.ext 1 (.t 9)), .u 5 (.alloc [(.lit (.bool false)), .emp]), .u 6 (.alloc [(.lit (.bool false)), .emp]), .n (.st none 2 (.t 5) (.t 12)), .n (.st none 2 (.t 6) (.t 13))])
 (.fg [3, 4, 5, 6] (.seq (.ops false [.u 15 (.ld none 3 true (.t 3)), .u 16 (.call f0 [(.t 15)]), .m 14 (.t 16), .u 17 (.ext 0 (.t 14)), .u 18 (.ext 1 (.t 14)), .u 7 (.alloc [(.lit (.bool false)), .emp]), .u 8 (.alloc [(.lit (.bool false)), .emp]), .n (.st none 2 (.t 7) (.t 17)), .n (.st none 2 (.t 8) (.t 18))])
 (.fg [4, 5, 6, 7, 8] (.seq (.ops true [.u 19 (.ld none 2 true (.t 5)), .u 20 (.ld none 2 true (.t 7)), .u 21 (.call f1 [(.t 19), (.t 20)]), .u 22 (.ld none 2 true (.t 6)), .u 23 (.ld none 2 true (.t 8)), .u 24 (.call f1 [(.t 22), (.t 23)]), .u 25 (.call f2 [(.t 21), (.t 24)]), .n (.st none 3 (.t 4) (.t 25))])
 .ret)))))))
def ac_fraction_Div (f0 f1 f2 : Nat) : AC := (.seq (.ops false [.u 2 (.box 3 (.t 0)), .u 3 (.box 3 (.t 1)), .u 4 (.alloc [(.lit (.bool false)), .emp, .emp]), .m 5 (.c (.one (.lit .nilIface)))])
 (.fg [2, 3, 4] (.seq (.ops false [.u 11 (.ld none 3 true (.t 2)), .u 12 (.call f0 [(.t 11)]), .m 10 (.t 12), .u 13 (.ext 0 (.t 10)), .u 14 (.ext 1 (.t 10)), .u 6 (.alloc [(.lit (.bool false)), .emp]), .u 7 (.alloc [(.lit (.bool false)), .emp]), .n (.st none 2 (.t 6) (.t 13)), .n (.st none 2 (.t 7) (.t 14))])
 (.fg [3, 4, 6, 7] (.seq (.ops false [.u 16 (.ld none 3 true (.t 3)), .u 17 (.call f0 [(.t 16)]), .m 15 (.t 17), .u 18 (.ext 0 (.t 15)), .u 19 (.ext 1 (.t 15)), .u 8 (.alloc [(.lit (.bool false)), .emp]), .u 9 (.alloc [(.lit (.bool false)), .emp]), .n (.st none 2 (.t 8) (.t 18)), .n (.st none 2 (.t 9) (.t 19))])
 (.fg [4, 6, 7, 8, 9] (.seq (.ops true [.u 20 (.ld none 2 true (.t 6)), .u 21 (.ld none 2 true (.t 9)), .u 22 (.call f1 [(.t 20), (.t 21)]), .u 23 (.ld none 2 true (.t 7)), .u 24 (.ld none 2 true (.t 8)), .u 25 (.call f1 [(.t 23), (.t 24)]), .u 26 (.call f2 [(.t 22), (.t 25)]), .u 27 (.ext 0 (.t 26)), .u 28 (.ext 1 (.t 26)), .n (.st none 3 (.t 4) (.t 27)), .m 5 (.t 28)])
 .ret)))))))
def ac_linkworkref02_Div (f0 f1 f2 : Nat) : AC := (.seq (.ops false [.u 2 (.box 3 (.t 0)), .u 3 (.box 3 (.t 1)), .u 4 (.alloc [(.lit (.bool false)), .emp, .emp]), .m 5 (.i 0)])
 (.fg [2, 3, 4] (.seq (.ops false [.u 11 (.ld none 3 true (.t 2)), .u 12 (.call f0 [(.t 11)]), .m 10 (.t 12), .u 13 (.ext 0 (.t 10)), .u 14 (.ext 1 (.t 10)), .u 6 (.alloc [(.lit (.bool false)), .emp]), .u 7 (.alloc [(.lit (.bool false)), .emp]), .n (.st none 2 (.t 6) (.t 13)), .n (.st none 2 (.t 7) (.t 14))])
 (.fg [3, 4, 6, 7] (.seq (.ops false [.u 16 (.ld none 3 true (.t 3)), .u 17 (.call f0 [(.t 16)]), .m 15 (.t 17), .u 18 (.ext 0 (.t 15)), .u 19 (.ext 1 (.t 15)), .u 8 (.alloc [(.lit (.bool false)), .emp]), .u 9 (.alloc [(.lit (.bool false)), .emp]), .n (.st none 2 (.t 8) (.t 18)), .n (.st none 2 (.t 9) (.t 19))])
 (.fg [4, 6, 7, 8, 9] (.seq (.ops true [.u 20 (.ld none 2 true (.t 6)), .u 21 (.ld none 2 true (.t 9)), .u 22 (.call f1 [(.t 20), (.t 21)]), .u 23 (.ld none 2 true (.t 7)), .u 24 (.ld none 2 true (.t 8)), .u 25 (.call f1 [(.t 23), (.t 24)]), .u 26 (.call f2 [(.t 22), (.t 25)]), .u 27 (.ext 0 (.t 26)), .u 28 (.ext 1 (.t 26)), .n (.st none 3 (.t 4) (.t 27)), .m 5 (.t 28)])
 .ret)))))))
theorem rmul_sound (hΓ : Holds P Γ) {f fp fm ff : Nat} (hp : Γ fp = .dat false rparts_G) (hm : Γ fm = .dat false zmul_G) (hf : Γ ff = .dat false rform_G) (hc : check P f = some (26, (ac_fraction_Mul fp fm ff).strip, [.cell 4 3 true])) : Sound P f (.dat false rmul_G) := by
 refine sound_dat hc rmul_good hΓ (fun args K hcl hfi hG => ?_)
 match args, hG with
 | [a, b], hG =>
  obtain ⟨x, rfl, hx, y, rfl, hy, hl, hl', hK⟩ := hG
  refine ⟨by simp, ?_⟩
  simp only [go_sem, ac_fraction_Mul, hp, hm, hf, hx, hy]
  have n1 := num_le hx
  have d1 := den_le hx
  have n2 := num_le hy
  have d2 := den_le hy
  have m1 := zs_mul (rv x).num (rv y).num
  have m3 := zs_mul ((rv x).den : Int) (rv y).den
  rw [Int.natCast_mul, mul_parts]
  exact ⟨hl, hl', by omega, by omega, by omega, by omega, by omega, by omega, Int.mul_ne_zero (den_ne _) (den_ne _), hK⟩
theorem rfromE_sound (hΓ : Holds P Γ) {f fs ff tE : Nat} (hs : Γ fs = .dat true zsign_G) (hf : Γ ff = .dat false rform_G) (hc : check P f = some (14, (ac_fraction_From fs ff tE).strip, [.cell 4 3 true, .tmp 5])) : Sound P f (.dat false (rfromE_G tE)) := by
 refine sound_dat hc (rfromE_good tE) hΓ (fun args K hcl hfi hG => ?_)
 match args, hG with
 | [a, b], hG =>
  obtain ⟨v, rfl, hv, w, rfl, hw, hz, hz', hK⟩ := hG
  refine ⟨by simp, ?_⟩
  simp only [go_sem, ac_fraction_From, hs, hf, hv, hw]
  refine ⟨fun e => ?_, fun e => ?_⟩
  ·have h0 := Int.sign_eq_zero_iff_zero.1 e
   rw [if_pos h0, h0, Rat.divInt_zero, errV_s tE (by decide), rQ_eq, rcan_zero] at hK
   exact hK
  ·have h0 : zv w ≠ 0 := fun h => e (by rw [h]; rfl)
   rw [if_neg h0, errV_0] at hK
   exact ⟨hz, hz', h0, hK⟩
theorem rdivE_sound (hΓ : Holds P Γ) {f fp fm ff tE : Nat} (hp : Γ fp = .dat false rparts_G) (hm : Γ fm = .dat false zmul_G) (hf : Γ ff = .dat false (rfromE_G tE)) (hc : check P f = some (29, (ac_fraction_Div fp fm ff).strip, [.cell 4 3 true, .tmp 5])) : Sound P f (.dat false (rdivE_G tE)) := by
 refine sound_dat hc (rdivE_good tE) hΓ (fun args K hcl hfi hG => ?_)
 match args, hG with
 | [a, b], hG =>
  obtain ⟨x, rfl, hx, y, rfl, hy, hl, hl', hK⟩ := hG
  refine ⟨by simp, ?_⟩
  simp only [go_sem, ac_fraction_Div, hp, hm, hf, hx, hy]
  have n1 := num_le hx
  have d1 := den_le hx
  have n2 := num_le hy
  have d2 := den_le hy
  have m1 := zs_mul (rv x).num ((rv y).den : Int)
  have m3 := zs_mul ((rv x).den : Int) (rv y).num
  have e : ((((rv x).den : Int) * (rv y).num = 0)) = (rv y = 0) := propext ⟨fun h => by
   rcases Int.mul_eq_zero.1 h with h | h
   ·exact absurd h (den_ne _)
   ·exact Rat.num_eq_zero.1 h, fun h => by rw [h]; exact Int.mul_zero _⟩
  simp only [e]
  rw [div_eq]
  exact ⟨hl, hl', by omega, by omega, by omega, by omega, by omega, by omega, hK⟩
theorem rfromN_sound (hΓ : Holds P Γ) {f fs ff : Nat} (hs : Γ fs = .dat true zsign_G) (hf : Γ ff = .dat false rform_G) (hc : check P f = some (13, (ac_linkworkref02_From fs ff).strip, [.cell 4 3 true, .tmp 5])) : Sound P f (.dat false rfromN_G) := by
 refine sound_dat hc rfromN_good hΓ (fun args K hcl hfi hG => ?_)
 match args, hG with
 | [a, b], hG =>
  obtain ⟨v, rfl, hv, w, rfl, hw, hz, hz', hK⟩ := hG
  refine ⟨by simp, ?_⟩
  simp only [go_sem, ac_linkworkref02_From, hs, hf, hv, hw]
  refine ⟨fun e => ?_, fun e => ?_⟩
  ·have h0 := Int.sign_eq_zero_iff_zero.1 e
   rw [if_pos h0, h0, Rat.divInt_zero, rQ_eq, rcan_zero] at hK
   exact hK
  ·have h0 : zv w ≠ 0 := fun h => e (by rw [h]; rfl)
   rw [if_neg h0] at hK
   exact ⟨hz, hz', h0, hK⟩
theorem rdivN_sound (hΓ : Holds P Γ) {f fp fm ff : Nat} (hp : Γ fp = .dat false rparts_G) (hm : Γ fm = .dat false zmul_G) (hf : Γ ff = .dat false rfromN_G) (hc : check P f = some (29, (ac_linkworkref02_Div fp fm ff).strip, [.cell 4 3 true, .tmp 5])) : Sound P f (.dat false rdivN_G) := by
 refine sound_dat hc rdivN_good hΓ (fun args K hcl hfi hG => ?_)
 match args, hG with
 | [a, b], hG =>
  obtain ⟨x, rfl, hx, y, rfl, hy, hl, hl', hK⟩ := hG
  refine ⟨by simp, ?_⟩
  simp only [go_sem, ac_linkworkref02_Div, hp, hm, hf, hx, hy]
  have n1 := num_le hx
  have d1 := den_le hx
  have n2 := num_le hy
  have d2 := den_le hy
  have m1 := zs_mul (rv x).num ((rv y).den : Int)
  have m3 := zs_mul ((rv x).den : Int) (rv y).num
  have e : ((((rv x).den : Int) * (rv y).num = 0)) = (rv y = 0) := propext ⟨fun h => by
   rcases Int.mul_eq_zero.1 h with h | h
   ·exact absurd h (den_ne _)
   ·exact Rat.num_eq_zero.1 h, fun h => by rw [h]; exact Int.mul_zero _⟩
  simp only [e]
  rw [div_eq]
  exact ⟨by omega, by omega, by omega, by omega, by omega, by omega, by omega, by omega, hK⟩
end Go.Abs
end
section
set_option linter.unusedVariables false
namespace Go.Num
open Go.Abs
abbrev V2 := Rat × Rat
abbrev TnQ := Rat × Bool
abbrev PsQ := TnQ × V2
def tv (t : Tn) : TnQ := (rv t.1, t.2)
def pv (p : Ps) : PsQ := (tv p.1, av p.2)
def subQ (a b : V2) : V2 := (a.1 - b.1, a.2 - b.2)
def addQ (a b : V2) : V2 := (a.1 + b.1, a.2 + b.2)
def negQ (a : V2) : V2 := (-a.1, -a.2)
def crossQ (a b : V2) : Rat := a.1 * b.2 - a.2 * b.1
def sqQ (a : V2) : Rat := a.1 * a.1 + a.2 * a.2
def cosQ (t : TnQ) : Rat := if t.2 = true then -1 else (1 - t.1 * t.1) / (1 + t.1 * t.1)
def sinQ (t : TnQ) : Rat := if t.2 = true then 0 else (t.1 + t.1) / (1 + t.1 * t.1)
def rotQ (t : TnQ) (q : V2) : V2 := (cosQ t * q.1 - sinQ t * q.2, sinQ t * q.1 + cosQ t * q.2)
def appQ (p : PsQ) (q : V2) : V2 := addQ (rotQ p.1 q) p.2
def backQ (t : TnQ) : TnQ := (-t.1, t.2)
def invQ (p : PsQ) : PsQ := (backQ p.1, rotQ (backQ p.1) (negQ p.2))
def tchk (t : Tn) : Nat := if vldR t.1 = true ∧ ¬ (t.2 = true ∧ rv t.1 ≠ 0) then 0 else 2
def avld (a : Arc) : Bool := vldR a.1 && vldR a.2
def pvld (p : Ps) : Bool := decide (tchk p.1 = 0) && avld p.2
def zq (a : V2) : Nat := max (rz a.1) (rz a.2)
theorem zq_sub (a b : V2) : zq (subQ a b) ≤ zq a + zq b + 2 := by
 have h1 := rz_sub a.1 b.1
 have h2 := rz_sub a.2 b.2
 unfold zq subQ; simp only; omega
theorem zq_add (a b : V2) : zq (addQ a b) ≤ zq a + zq b + 2 := by
 have h1 := rz_add a.1 b.1
 have h2 := rz_add a.2 b.2
 unfold zq addQ; simp only; omega
theorem zq_neg (a : V2) : zq (negQ a) = zq a := by unfold zq negQ; simp only [rz_neg]
theorem rz_cross (a b : V2) : rz (crossQ a b) ≤ 2 * zq a + 2 * zq b + 6 := by
 have h1 := rz_mul a.1 b.2
 have h2 := rz_mul a.2 b.1
 have h3 := rz_sub (a.1 * b.2) (a.2 * b.1)
 unfold zq crossQ; omega
theorem rz_sq (a : V2) : rz (sqQ a) ≤ 4 * zq a + 6 := by
 have h1 := rz_mul a.1 a.1
 have h2 := rz_mul a.2 a.2
 have h3 := rz_add (a.1 * a.1) (a.2 * a.2)
 unfold zq sqQ; omega
theorem rz_neg1 : rz (-1) ≤ 2 := by rw [show (-1 : Rat) = -(1 : Rat) from rfl, rz_neg]; exact rz_1
theorem rz_cos (t : TnQ) : rz (cosQ t) ≤ 4 * rz t.1 + 20 := by
 unfold cosQ
 split
 ·have := rz_neg1; omega
 ·have h0 := rz_1
  have h1 := rz_mul t.1 t.1
  have h2 := rz_sub 1 (t.1 * t.1)
  have h3 := rz_add 1 (t.1 * t.1)
  have h4 := rz_div (1 - t.1 * t.1) (1 + t.1 * t.1)
  omega
theorem rz_sin (t : TnQ) : rz (sinQ t) ≤ 4 * rz t.1 + 20 := by
 unfold sinQ
 split
 ·rw [rz_0]; omega
 ·have h0 := rz_1
  have h1 := rz_mul t.1 t.1
  have h2 := rz_add t.1 t.1
  have h3 := rz_add 1 (t.1 * t.1)
  have h4 := rz_div (t.1 + t.1) (1 + t.1 * t.1)
  omega
theorem zq_rot (t : TnQ) (q : V2) : zq (rotQ t q) ≤ 8 * rz t.1 + 2 * zq q + 46 := by
 have c := rz_cos t
 have s := rz_sin t
 have h1 := rz_mul (cosQ t) q.1
 have h2 := rz_mul (sinQ t) q.2
 have h3 := rz_mul (sinQ t) q.1
 have h4 := rz_mul (cosQ t) q.2
 have h5 := rz_sub (cosQ t * q.1) (sinQ t * q.2)
 have h6 := rz_add (sinQ t * q.1) (cosQ t * q.2)
 unfold zq rotQ; simp only; omega
theorem zq_app (p : PsQ) (q : V2) : zq (appQ p q) ≤ 8 * rz p.1.1 + 2 * zq q + zq p.2 + 48 := by
 have h1 := zq_rot p.1 q
 have h2 := zq_add (rotQ p.1 q) p.2
 unfold appQ; omega
theorem sq_nonneg (t : Rat) : 0 ≤ t * t := by
 rcases (Rat.le_total : 0 ≤ t ∨ t ≤ 0) with h | h
 ·exact Rat.mul_nonneg h h
 ·have h1 : 0 ≤ -t := by grind
  have h2 := Rat.mul_nonneg h1 h1
  grind
theorem den_pos (t : Rat) : 1 + t * t ≠ 0 := by
 have h := sq_nonneg t
 intro e
 grind
theorem av_le {a : Arc} (h : WLA a) : zq (av a) ≤ al a := by
 have h1 := rz_rv h.1
 have h2 := rz_rv h.2
 unfold zq av al; simp only; omega
end Go.Num
end
section
set_option linter.unusedVariables false
set_option linter.unusedSimpArgs false
set_option maxRecDepth 100000
namespace Go.Abs
open Go.Num
variable {P : Program} {Γ : Nat → Spec}
def pQ (x : V2) : AV := .agg [cb (rcan x.1), cn (rcan x.1), cd (rcan x.1), cb (rcan x.2), cn (rcan x.2), cd (rcan x.2)]
theorem pQ_eq (x : V2) : pQ x = .agg [cb (rcan x.1), cn (rcan x.1), cd (rcan x.1), cb (rcan x.2), cn (rcan x.2), cd (rcan x.2)] := eq_of_heq (HEq.refl _)
def tQ (t : TnQ) : AV := .agg [cb (rcan t.1), cn (rcan t.1), cd (rcan t.1), .lit (.bool t.2)]
theorem tQ_eq (t : TnQ) : tQ t = .agg [cb (rcan t.1), cn (rcan t.1), cd (rcan t.1), .lit (.bool t.2)] := eq_of_heq (HEq.refl _)
theorem av_mk (x y : R) : av (x, y) = (rv x, rv y) := rfl
theorem al_can (a b : Rat) : al (rcan a, rcan b) = max (rz a) (rz b) := rfl
theorem WLA_mk (a b : Rat) : WLA (rcan a, rcan b) = True := eq_true ⟨WLR_rcan _, WLR_rcan _⟩
attribute [go_sem] pQ_eq tQ_eq WLA_mk
attribute [go_sem ↓] pQ_eq tQ_eq WLA_mk
def pvalid_G (l : List AV) (K : AV → Prop) : Prop :=
 match l with
 | [a] => onA (fun p => al p ≤ 100000000 ∧ K (.one (.lit (.bool (avld p))))) a
 | _ => False
theorem pvalid_Ge (a : AV) (K : AV → Prop) : pvalid_G [a] K = (onA (fun p => al p ≤ 100000000 ∧ K (.one (.lit (.bool (avld p))))) a) := propext Iff.rfl
@[congr] theorem pvalid_Gc {K : AV → Prop} {l l' : List AV} (h : l = l') : pvalid_G l K = pvalid_G l' K := by subst h; rfl
attribute [go_sem] pvalid_Ge
attribute [go_sem ↓] pvalid_Ge
theorem pvalid_good : Good pvalid_G := good_of fun as => by
 unfold pvalid_G
 split
 ·exact (g_onA fun _ => (.and fun _ => (.ret _)))
 ·exact .of fun K hk => hk.elim
def pless_G (l : List AV) (K : AV → Prop) : Prop :=
 match l with
 | [a, b] => onA (fun p => onA (fun q => al p ≤ 100000000 ∧ al q ≤ 100000000 ∧ K (pQ (subQ (av p) (av q)))) b) a
 | _ => False
theorem pless_Ge (a b : AV) (K : AV → Prop) : pless_G [a, b] K = (onA (fun p => onA (fun q => al p ≤ 100000000 ∧ al q ≤ 100000000 ∧ K (pQ (subQ (av p) (av q)))) b) a) := propext Iff.rfl
@[congr] theorem pless_Gc {K : AV → Prop} {l l' : List AV} (h : l = l') : pless_G l K = pless_G l' K := by subst h; rfl
attribute [go_sem] pless_Ge
attribute [go_sem ↓] pless_Ge
theorem pless_good : Good pless_G := good_of fun as => by
 unfold pless_G
 split
 ·exact (g_onA fun _ => (g_onA fun _ => (.and fun _ => (.and fun _ => (.ret _)))))
 ·exact .of fun K hk => hk.elim
def pplus_G (l : List AV) (K : AV → Prop) : Prop :=
 match l with
 | [a, b] => onA (fun p => onA (fun q => al p ≤ 100000000 ∧ al q ≤ 100000000 ∧ K (pQ (addQ (av p) (av q)))) b) a
 | _ => False
theorem pplus_Ge (a b : AV) (K : AV → Prop) : pplus_G [a, b] K = (onA (fun p => onA (fun q => al p ≤ 100000000 ∧ al q ≤ 100000000 ∧ K (pQ (addQ (av p) (av q)))) b) a) := propext Iff.rfl
@[congr] theorem pplus_Gc {K : AV → Prop} {l l' : List AV} (h : l = l') : pplus_G l K = pplus_G l' K := by subst h; rfl
attribute [go_sem] pplus_Ge
attribute [go_sem ↓] pplus_Ge
theorem pplus_good : Good pplus_G := good_of fun as => by
 unfold pplus_G
 split
 ·exact (g_onA fun _ => (g_onA fun _ => (.and fun _ => (.and fun _ => (.ret _)))))
 ·exact .of fun K hk => hk.elim
def pcross_G (l : List AV) (K : AV → Prop) : Prop :=
 match l with
 | [a, b] => onA (fun p => onA (fun q => al p ≤ 100000000 ∧ al q ≤ 100000000 ∧ K (rQ (crossQ (av p) (av q)))) b) a
 | _ => False
theorem pcross_Ge (a b : AV) (K : AV → Prop) : pcross_G [a, b] K = (onA (fun p => onA (fun q => al p ≤ 100000000 ∧ al q ≤ 100000000 ∧ K (rQ (crossQ (av p) (av q)))) b) a) := propext Iff.rfl
@[congr] theorem pcross_Gc {K : AV → Prop} {l l' : List AV} (h : l = l') : pcross_G l K = pcross_G l' K := by subst h; rfl
attribute [go_sem] pcross_Ge
attribute [go_sem ↓] pcross_Ge
theorem pcross_good : Good pcross_G := good_of fun as => by
 unfold pcross_G
 split
 ·exact (g_onA fun _ => (g_onA fun _ => (.and fun _ => (.and fun _ => (.ret _)))))
 ·exact .of fun K hk => hk.elim
def psq_G (l : List AV) (K : AV → Prop) : Prop :=
 match l with
 | [a] => onA (fun p => al p ≤ 100000000 ∧ K (rQ (sqQ (av p)))) a
 | _ => False
theorem psq_Ge (a : AV) (K : AV → Prop) : psq_G [a] K = (onA (fun p => al p ≤ 100000000 ∧ K (rQ (sqQ (av p)))) a) := propext Iff.rfl
@[congr] theorem psq_Gc {K : AV → Prop} {l l' : List AV} (h : l = l') : psq_G l K = psq_G l' K := by subst h; rfl
attribute [go_sem] psq_Ge
attribute [go_sem ↓] psq_Ge
theorem psq_good : Good psq_G := good_of fun as => by
 unfold psq_G
 split
 ·exact (g_onA fun _ => (.and fun _ => (.ret _)))
 ·exact .of fun K hk => hk.elim
def psame_G (l : List AV) (K : AV → Prop) : Prop :=
 match l with
 | [a, b] => onA (fun p => onA (fun q => al p ≤ 100000000 ∧ al q ≤ 100000000 ∧ K (.one (.lit (.bool (decide (av p = av q)))))) b) a
 | _ => False
theorem psame_Ge (a b : AV) (K : AV → Prop) : psame_G [a, b] K = (onA (fun p => onA (fun q => al p ≤ 100000000 ∧ al q ≤ 100000000 ∧ K (.one (.lit (.bool (decide (av p = av q)))))) b) a) := propext Iff.rfl
@[congr] theorem psame_Gc {K : AV → Prop} {l l' : List AV} (h : l = l') : psame_G l K = psame_G l' K := by subst h; rfl
attribute [go_sem] psame_Ge
attribute [go_sem ↓] psame_Ge
theorem psame_good : Good psame_G := good_of fun as => by
 unfold psame_G
 split
 ·exact (g_onA fun _ => (g_onA fun _ => (.and fun _ => (.and fun _ => (.ret _)))))
 ·exact .of fun K hk => hk.elim
def pneg_G (l : List AV) (K : AV → Prop) : Prop :=
 match l with
 | [a] => onA (fun p => al p ≤ 100000000 ∧ K (pQ (negQ (av p)))) a
 | _ => False
theorem pneg_Ge (a : AV) (K : AV → Prop) : pneg_G [a] K = (onA (fun p => al p ≤ 100000000 ∧ K (pQ (negQ (av p)))) a) := propext Iff.rfl
@[congr] theorem pneg_Gc {K : AV → Prop} {l l' : List AV} (h : l = l') : pneg_G l K = pneg_G l' K := by subst h; rfl
attribute [go_sem] pneg_Ge
attribute [go_sem ↓] pneg_Ge
theorem pneg_good : Good pneg_G := good_of fun as => by
 unfold pneg_G
 split
 ·exact (g_onA fun _ => (.and fun _ => (.ret _)))
 ·exact .of fun K hk => hk.elim
def pclone_G (l : List AV) (K : AV → Prop) : Prop :=
 match l with
 | [a] => onA (fun p => al p ≤ 100000000 ∧ K (pQ (av p))) a
 | _ => False
theorem pclone_Ge (a : AV) (K : AV → Prop) : pclone_G [a] K = (onA (fun p => al p ≤ 100000000 ∧ K (pQ (av p))) a) := propext Iff.rfl
@[congr] theorem pclone_Gc {K : AV → Prop} {l l' : List AV} (h : l = l') : pclone_G l K = pclone_G l' K := by subst h; rfl
attribute [go_sem] pclone_Ge
attribute [go_sem ↓] pclone_Ge
theorem pclone_good : Good pclone_G := good_of fun as => by
 unfold pclone_G
 split
 ·exact (g_onA fun _ => (.and fun _ => (.ret _)))
 ·exact .of fun K hk => hk.elim
def rzero_G (l : List AV) (K : AV → Prop) : Prop :=
 match l with
 | [a] => onR (fun x => rl x ≤ 4294967296 ∧ K (.one (.lit (.bool (decide (rv x = 0)))))) a
 | _ => False
theorem rzero_Ge (a : AV) (K : AV → Prop) : rzero_G [a] K = (onR (fun x => rl x ≤ 4294967296 ∧ K (.one (.lit (.bool (decide (rv x = 0)))))) a) := propext Iff.rfl
@[congr] theorem rzero_Gc {K : AV → Prop} {l l' : List AV} (h : l = l') : rzero_G l K = rzero_G l' K := by subst h; rfl
attribute [go_sem] rzero_Ge
attribute [go_sem ↓] rzero_Ge
theorem rzero_good : Good rzero_G := good_of fun as => by
 unfold rzero_G
 split
 ·exact (g_onR fun _ => (.and fun _ => (.ret _)))
 ·exact .of fun K hk => hk.elim
def rover_G (l : List AV) (K : AV → Prop) : Prop :=
 match l with
 | [a, b] => onR (fun x => onR (fun y => rl x ≤ 1073741824 ∧ rl y ≤ 1073741824 ∧ K (rQ (rv x / rv y))) b) a
 | _ => False
theorem rover_Ge (a b : AV) (K : AV → Prop) : rover_G [a, b] K = (onR (fun x => onR (fun y => rl x ≤ 1073741824 ∧ rl y ≤ 1073741824 ∧ K (rQ (rv x / rv y))) b) a) := propext Iff.rfl
@[congr] theorem rover_Gc {K : AV → Prop} {l l' : List AV} (h : l = l') : rover_G l K = rover_G l' K := by subst h; rfl
attribute [go_sem] rover_Ge
attribute [go_sem ↓] rover_Ge
theorem rover_good : Good rover_G := good_of fun as => by
 unfold rover_G
 split
 ·exact (g_onR fun _ => (g_onR fun _ => (.and fun _ => (.and fun _ => (.ret _)))))
 ·exact .of fun K hk => hk.elim
def tcheck_G (tE : Nat) (l : List AV) (K : AV → Prop) : Prop :=
 match l with
 | [a] => onT (fun t => rl t.1 ≤ 100000000 ∧ K (errV tE (tchk t))) a
 | _ => False
theorem tcheck_Ge (tE : Nat) (a : AV) (K : AV → Prop) : tcheck_G tE [a] K = (onT (fun t => rl t.1 ≤ 100000000 ∧ K (errV tE (tchk t))) a) := propext Iff.rfl
@[congr] theorem tcheck_Gc (tE : Nat) {K : AV → Prop} {l l' : List AV} (h : l = l') : tcheck_G tE l K = tcheck_G tE l' K := by subst h; rfl
attribute [go_sem] tcheck_Ge
attribute [go_sem ↓] tcheck_Ge
theorem tcheck_good (tE : Nat) : Good (tcheck_G tE) := good_of fun as => by
 unfold tcheck_G
 split
 ·exact (g_onT fun _ => (.and fun _ => (.ret _)))
 ·exact .of fun K hk => hk.elim
def tvalid_G (l : List AV) (K : AV → Prop) : Prop :=
 match l with
 | [a] => onT (fun t => rl t.1 ≤ 100000000 ∧ K (.one (.lit (.bool (decide (tchk t = 0)))))) a
 | _ => False
theorem tvalid_Ge (a : AV) (K : AV → Prop) : tvalid_G [a] K = (onT (fun t => rl t.1 ≤ 100000000 ∧ K (.one (.lit (.bool (decide (tchk t = 0)))))) a) := propext Iff.rfl
@[congr] theorem tvalid_Gc {K : AV → Prop} {l l' : List AV} (h : l = l') : tvalid_G l K = tvalid_G l' K := by subst h; rfl
attribute [go_sem] tvalid_Ge
attribute [go_sem ↓] tvalid_Ge
theorem tvalid_good : Good tvalid_G := good_of fun as => by
 unfold tvalid_G
 split
 ·exact (g_onT fun _ => (.and fun _ => (.ret _)))
 ·exact .of fun K hk => hk.elim
def pvld_G (l : List AV) (K : AV → Prop) : Prop :=
 match l with
 | [a] => onPo (fun p => pl p ≤ 100000000 ∧ K (.one (.lit (.bool (pvld p))))) a
 | _ => False
theorem pvld_Ge (a : AV) (K : AV → Prop) : pvld_G [a] K = (onPo (fun p => pl p ≤ 100000000 ∧ K (.one (.lit (.bool (pvld p))))) a) := propext Iff.rfl
@[congr] theorem pvld_Gc {K : AV → Prop} {l l' : List AV} (h : l = l') : pvld_G l K = pvld_G l' K := by subst h; rfl
attribute [go_sem] pvld_Ge
attribute [go_sem ↓] pvld_Ge
theorem pvld_good : Good pvld_G := good_of fun as => by
 unfold pvld_G
 split
 ·exact (g_onPo fun _ => (.and fun _ => (.ret _)))
 ·exact .of fun K hk => hk.elim
def tneg_G (l : List AV) (K : AV → Prop) : Prop :=
 match l with
 | [a] => onT (fun t => rl t.1 ≤ 100000000 ∧ K (tQ (backQ (tv t)))) a
 | _ => False
theorem tneg_Ge (a : AV) (K : AV → Prop) : tneg_G [a] K = (onT (fun t => rl t.1 ≤ 100000000 ∧ K (tQ (backQ (tv t)))) a) := propext Iff.rfl
@[congr] theorem tneg_Gc {K : AV → Prop} {l l' : List AV} (h : l = l') : tneg_G l K = tneg_G l' K := by subst h; rfl
attribute [go_sem] tneg_Ge
attribute [go_sem ↓] tneg_Ge
theorem tneg_good : Good tneg_G := good_of fun as => by
 unfold tneg_G
 split
 ·exact (g_onT fun _ => (.and fun _ => (.ret _)))
 ·exact .of fun K hk => hk.elim
def tdir_G (l : List AV) (K : AV → Prop) : Prop :=
 match l with
 | [a] => onT (fun t => rl t.1 ≤ 10000000 ∧ K (.tup [rQ (cosQ (tv t)), rQ (sinQ (tv t))])) a
 | _ => False
theorem tdir_Ge (a : AV) (K : AV → Prop) : tdir_G [a] K = (onT (fun t => rl t.1 ≤ 10000000 ∧ K (.tup [rQ (cosQ (tv t)), rQ (sinQ (tv t))])) a) := propext Iff.rfl
@[congr] theorem tdir_Gc {K : AV → Prop} {l l' : List AV} (h : l = l') : tdir_G l K = tdir_G l' K := by subst h; rfl
attribute [go_sem] tdir_Ge
attribute [go_sem ↓] tdir_Ge
theorem tdir_good : Good tdir_G := good_of fun as => by
 unfold tdir_G
 split
 ·exact (g_onT fun _ => (.and fun _ => (.ret _)))
 ·exact .of fun K hk => hk.elim
def lsame_G (l : List AV) (K : AV → Prop) : Prop :=
 match l with
 | [a, b] => onA (fun p => onA (fun q => al p ≤ 4294967296 ∧ K (.one (.lit (.bool (decide (p = q)))))) b) a
 | _ => False
theorem lsame_Ge (a b : AV) (K : AV → Prop) : lsame_G [a, b] K = (onA (fun p => onA (fun q => al p ≤ 4294967296 ∧ K (.one (.lit (.bool (decide (p = q)))))) b) a) := propext Iff.rfl
@[congr] theorem lsame_Gc {K : AV → Prop} {l l' : List AV} (h : l = l') : lsame_G l K = lsame_G l' K := by subst h; rfl
attribute [go_sem] lsame_Ge
attribute [go_sem ↓] lsame_Ge
theorem lsame_good : Good lsame_G := good_of fun as => by
 unfold lsame_G
 split
 ·exact (g_onA fun _ => (g_onA fun _ => (.and fun _ => (.ret _))))
 ·exact .of fun K hk => hk.elim
def ac_threepos_valid (f0 : Nat) : AC := (.seq (.ops false [.u 1 (.box 6 (.t 0)), .m 2 .fa])
 (.fg [1] (.seq (.ops false [.u 3 (.fa 0 (.t 1)), .u 4 (.ld none 3 true (.t 3)), .u 5 (.call f0 [(.t 4)]), .m 6 (.t 5), .w 7 6 true (.fa 3 (.t 1)), .w 8 6 true (.ld none 3 true (.t 7)), .w 9 6 true (.call f0 [(.t 8)]), .u 10 (.pick (.t 6) (.t 9) .fa), .m 2 (.t 10)])
 .ret)))
def ac_threepos_sub (f0 : Nat) : AC := (.seq (.ops false [.u 2 (.box 6 (.t 0)), .u 3 (.box 6 (.t 1)), .u 4 (.alloc [(.lit (.bool false)), .emp, .emp, (.lit (.bool false)), .emp, .emp])])
 (.fg [2, 3, 4] (.seq (.ops true [.u 5 (.fa 0 (.t 2)), .u 6 (.ld none 3 true (.t 5)), .u 7 (.fa 0 (.t 3)), .u 8 (.ld none 3 true (.t 7)), .u 9 (.call f0 [(.t 6), (.t 8)]), .u 10 (.fa 3 (.t 2)), .u 11 (.ld none 3 true (.t 10)), .u 12 (.fa 3 (.t 3)), .u 13 (.ld none 3 true (.t 12)), .u 14 (.call f0 [(.t 11), (.t 13)]), .u 15 (.build [.x 3 (.t 9), .x 3 (.t 14)]), .n (.st none 6 (.t 4) (.t 15))])
 .ret)))
def ac_pose_add (f0 : Nat) : AC := (.seq (.ops false [.u 2 (.box 6 (.t 0)), .u 3 (.box 6 (.t 1)), .u 4 (.alloc [(.lit (.bool false)), .emp, .emp, (.lit (.bool false)), .emp, .emp])])
 (.fg [2, 3, 4] (.seq (.ops true [.u 5 (.fa 0 (.t 2)), .u 6 (.ld none 3 true (.t 5)), .u 7 (.fa 0 (.t 3)), .u 8 (.ld none 3 true (.t 7)), .u 9 (.call f0 [(.t 6), (.t 8)]), .u 10 (.fa 3 (.t 2)), .u 11 (.ld none 3 true (.t 10)), .u 12 (.fa 3 (.t 3)), .u 13 (.ld none 3 true (.t 12)), .u 14 (.call f0 [(.t 11), (.t 13)]), .u 15 (.build [.x 3 (.t 9), .x 3 (.t 14)]), .n (.st none 6 (.t 4) (.t 15))])
 .ret)))
def ac_threepos_cross (f0 f1 : Nat) : AC := (.seq (.ops false [.u 2 (.box 6 (.t 0)), .u 3 (.box 6 (.t 1)), .u 4 (.alloc [(.lit (.bool false)), .emp, .emp])])
 (.fg [2, 3, 4] (.seq (.ops true [.u 5 (.fa 0 (.t 2)), .u 6 (.ld none 3 true (.t 5)), .u 7 (.fa 3 (.t 3)), .u 8 (.ld none 3 true (.t 7)), .u 9 (.call f0 [(.t 6), (.t 8)]), .u 10 (.fa 3 (.t 2)), .u 11 (.ld none 3 true (.t 10)), .u 12 (.fa 0 (.t 3)), .u 13 (.ld none 3 true (.t 12)), .u 14 (.call f0 [(.t 11), (.t 13)]), .u 15 (.call f1 [(.t 9), (.t 14)]), .n (.st none 3 (.t 4) (.t 15))])
 .ret)))
def ac_threepos_square (f0 f1 : Nat) : AC := (.seq (.ops false [.u 1 (.box 6 (.t 0)), .u 2 (.alloc [(.lit (.bool false)), .emp, .emp])])
 (.fg [1, 2] (.seq (.ops true [.u 3 (.fa 0 (.t 1)), .u 4 (.ld none 3 true (.t 3)), .u 5 (.fa 0 (.t 1)), .u 6 (.ld none 3 true (.t 5)), .u 7 (.call f0 [(.t 4), (.t 6)]), .u 8 (.fa 3 (.t 1)), .u 9 (.ld none 3 true (.t 8)), .u 10 (.fa 3 (.t 1)), .u 11 (.ld none 3 true (.t 10)), .u 12 (.call f0 [(.t 9), (.t 11)]), .u 13 (.call f1 [(.t 7), (.t 12)]), .n (.st none 3 (.t 2) (.t 13))])
 .ret)))
def ac_threepos_same (f0 : Nat) : AC := (.seq (.ops false [.u 2 (.box 6 (.t 0)), .u 3 (.box 6 (.t 1)), .m 4 .fa])
 (.fg [2, 3] (.seq (.ops false [.u 5 (.fa 0 (.t 2)), .u 6 (.ld none 3 true (.t 5)), .u 7 (.fa 0 (.t 3)), .u 8 (.ld none 3 true (.t 7)), .u 9 (.call f0 [(.t 6), (.t 8)]), .u 10 (.bin .eql (.t 9) (.i 0)), .m 11 (.t 10), .w 12 11 true (.fa 3 (.t 2)), .w 13 11 true (.ld none 3 true (.t 12)), .w 14 11 true (.fa 3 (.t 3)), .w 15 11 true (.ld none 3 true (.t 14)), .w 16 11 true (.call f0 [(.t 13), (.t 15)]), .w 17 11 true (.bin .eql (.t 16) (.i 0)), .u 18 (.pick (.t 11) (.t 17) .fa), .m 4 (.t 18)])
 .ret)))
def ac_pose_neg (f0 : Nat) : AC := (.seq (.ops false [.u 1 (.box 6 (.t 0)), .u 2 (.alloc [(.lit (.bool false)), .emp, .emp, (.lit (.bool false)), .emp, .emp])])
 (.fg [1, 2] (.seq (.ops true [.u 3 (.fa 0 (.t 1)), .u 4 (.ld none 3 true (.t 3)), .u 5 (.call f0 [(.t 4)]), .u 6 (.fa 3 (.t 1)), .u 7 (.ld none 3 true (.t 6)), .u 8 (.call f0 [(.t 7)]), .u 9 (.build [.x 3 (.t 5), .x 3 (.t 8)]), .n (.st none 6 (.t 2) (.t 9))])
 .ret)))
def ac_threepos_clone (f0 : Nat) : AC := (.seq (.ops false [.u 1 (.box 6 (.t 0)), .u 2 (.alloc [(.lit (.bool false)), .emp, .emp, (.lit (.bool false)), .emp, .emp])])
 (.fg [1, 2] (.seq (.ops false [.u 3 (.ld none 6 true (.t 1)), .u 4 (.build [.z [(.lit (.bool false)), .emp, .emp, (.lit (.bool false)), .emp, .emp]]), .u 5 (.call f0 [(.t 3), (.t 4)]), .n (.st none 6 (.t 2) (.t 5))])
 .ret)))
def ac_linkworkref17_Zero (f0 : Nat) : AC := (.seq (.ops false [.u 1 (.box 3 (.t 0)), .m 2 .fa])
 (.fg [1] (.seq (.ops false [.u 3 (.ld none 3 true (.t 1)), .u 4 (.call f0 [(.t 3)]), .u 5 (.bin .eql (.t 4) (.i 0)), .m 2 (.t 5)])
 .ret)))
def ac_turn_over (f0 : Nat) : AC := (.seq (.ops false [.u 2 (.box 3 (.t 0)), .u 3 (.box 3 (.t 1)), .u 4 (.alloc [(.lit (.bool false)), .emp, .emp])])
 (.fg [2, 3, 4] (.seq (.ops false [.u 8 (.ld none 3 true (.t 2)), .u 9 (.ld none 3 true (.t 3)), .u 10 (.call f0 [(.t 8), (.t 9)]), .m 7 (.t 10), .u 11 (.ext 0 (.t 7)), .u 12 (.ext 1 (.t 7)), .u 5 (.alloc [(.lit (.bool false)), .emp, .emp]), .n (.st none 3 (.t 5) (.t 11)), .m 6 (.t 12)])
 (.fg [4, 5, 6] (.seq (.seq (.ops false [.m 13 (.t 6), .u 14 (.binn .neq (.t 13) (.c (.one (.lit .nilIface))))])
 (.fg [4, 5, 14] (.cond (.t 14) (.seq (.ops false [.u 15 (.build [.z [(.lit (.bool false)), .emp, .emp]]), .n (.st none 3 (.t 4) (.t 15))])
 .ret) .skip)))
 (.fg [4, 5] (.seq (.ops false [.u 16 (.ld none 3 true (.t 5)), .n (.st none 3 (.t 4) (.t 16))])
 .ret)))))))
def ac_linkworkref17_over (f0 : Nat) : AC := (.seq (.ops false [.u 2 (.box 3 (.t 0)), .u 3 (.box 3 (.t 1)), .u 4 (.alloc [(.lit (.bool false)), .emp, .emp])])
 (.fg [2, 3, 4] (.seq (.ops false [.u 8 (.ld none 3 true (.t 2)), .u 9 (.ld none 3 true (.t 3)), .u 10 (.call f0 [(.t 8), (.t 9)]), .m 7 (.t 10), .u 11 (.ext 0 (.t 7)), .u 12 (.ext 1 (.t 7)), .u 5 (.alloc [(.lit (.bool false)), .emp, .emp]), .n (.st none 3 (.t 5) (.t 11)), .m 6 (.t 12)])
 (.fg [4, 5] (.seq (.ops false [.u 13 (.ld none 3 true (.t 5)), .n (.st none 3 (.t 4) (.t 13))])
 .ret)))))
def ac_turn_Check (f0 f1 tE : Nat) : AC := (.seq (.ops false [.u 1 (.box 4 (.t 0)), .m 2 (.c (.one (.lit .nilIface)))])
 (.fg [1] (.seq (.seq (.ops false [.u 3 (.fa 0 (.t 1)), .u 4 (.ld none 3 true (.t 3)), .u 5 (.call f0 [(.t 4)]), .u 6 (.un .not (.t 5)), .m 7 (.t 6), .w 8 7 false (.fa 3 (.t 1)), .w 9 7 false (.ld none 1 false (.t 8)), .w 10 7 false (.mv (.t 9)), .w 11 10 true (.fa 0 (.t 1)), .w 12 10 true (.ld none 3 true (.t 11)), .w 13 10 true (.call f1 [(.t 12)]), .w 14 10 true (.bin .neq (.t 13) (.i 0)), .w 15 7 false (.pick (.t 10) (.t 14) .fa), .u 16 (.pick (.t 7) .tr (.t 15))])
 (.fg [16] (.cond (.t 16) (.seq (.ops false [.u 17 (.iface tE (.i 2)), .m 2 (.t 17)])
 .ret) .skip)))
 (.fg [] (.seq (.ops false [.m 2 (.c (.one (.lit .nilIface)))])
 .ret)))))
def ac_linkworkref17_Turn (f0 f1 : Nat) : AC := (.seq (.ops false [.u 1 (.box 4 (.t 0)), .m 2 .fa])
 (.fg [1] (.seq (.ops false [.u 3 (.fa 0 (.t 1)), .u 4 (.ld none 3 true (.t 3)), .u 5 (.call f0 [(.t 4)]), .m 6 (.t 5), .w 7 6 true (.fa 3 (.t 1)), .w 8 6 true (.ld none 1 false (.t 7)), .w 9 6 true (.un .not (.t 8)), .w 10 6 true (.mv (.t 9)), .w 11 10 false (.fa 0 (.t 1)), .w 12 10 false (.ld none 3 true (.t 11)), .w 13 10 false (.call f1 [(.t 12)]), .w 14 6 true (.pick (.t 10) .tr (.t 13)), .u 15 (.pick (.t 6) (.t 14) .fa), .m 2 (.t 15)])
 .ret)))
def ac_pose_Valid (f0 f1 : Nat) : AC := (.seq (.ops false [.u 1 (.box 10 (.t 0)), .m 2 .fa])
 (.fg [1] (.seq (.ops false [.u 3 (.fa 0 (.t 1)), .u 4 (.ld none 4 true (.t 3)), .u 5 (.call f0 [(.t 4)]), .u 6 (.binn .eql (.t 5) (.c (.one (.lit .nilIface)))), .m 7 (.t 6), .w 8 7 true (.fa 4 (.t 1)), .w 9 7 true (.ld none 6 true (.t 8)), .w 10 7 true (.call f1 [(.t 9)]), .u 11 (.pick (.t 7) (.t 10) .fa), .m 2 (.t 11)])
 .ret)))
def ac_linkworkref17_Valid (f0 f1 : Nat) : AC := (.seq (.ops false [.u 1 (.box 10 (.t 0)), .m 2 .fa])
 (.fg [1] (.seq (.ops false [.u 3 (.fa 0 (.t 1)), .u 4 (.ld none 4 true (.t 3)), .u 5 (.call f0 [(.t 4)]), .m 6 (.t 5), .w 7 6 true (.fa 4 (.t 1)), .w 8 6 true (.ld none 6 true (.t 7)), .w 9 6 true (.call f1 [(.t 8)]), .u 10 (.pick (.t 6) (.t 9) .fa), .m 2 (.t 10)])
 .ret)))
def ac_turn_neg (f0 : Nat) : AC := (.seq (.ops false [.u 1 (.box 4 (.t 0)), .u 2 (.alloc [(.lit (.bool false)), .emp, .emp, (.lit (.bool false))])])
 (.fg [1, 2] (.seq (.ops true [.u 3 (.fa 0 (.t 1)), .u 4 (.ld none 3 true (.t 3)), .u 5 (.call f0 [(.t 4)]), .u 6 (.fa 3 (.t 1)), .u 7 (.ld none 1 false (.t 6)), .u 8 (.build [.x 3 (.t 5), .x 1 (.t 7)]), .n (.st none 4 (.t 2) (.t 8))])
 .ret)))
def ac_turn_direction (f0 f1 f2 f3 f4 : Nat) : AC := (.seq (.ops false [.u 1 (.box 4 (.t 0)), .u 2 (.alloc [(.lit (.bool false)), .emp, .emp]), .u 3 (.alloc [(.lit (.bool false)), .emp, .emp])])
 (.fg [1, 2, 3] (.seq (.seq (.ops false [.u 7 (.fa 3 (.t 1)), .u 8 (.ld none 1 false (.t 7))])
 (.fg [1, 2, 3, 8] (.cond (.t 8) (.seq (.ops false [.u 9 (.call f0 [(.i (-1))]), .u 10 (.build [.z [(.lit (.bool false)), .emp, .emp]]), .n (.st none 3 (.t 2) (.t 9)), .n (.st none 3 (.t 3) (.t 10))])
 .ret) .skip)))
 (.fg [1, 2, 3] (.seq (.ops true [.u 11 (.call f0 [(.i 1)]), .u 12 (.fa 0 (.t 1)), .u 13 (.ld none 3 true (.t 12)), .u 14 (.fa 0 (.t 1)), .u 15 (.ld none 3 true (.t 14)), .u 16 (.call f1 [(.t 13), (.t 15)]), .u 4 (.alloc [(.lit (.bool false)), .emp, .emp]), .u 5 (.alloc [(.lit (.bool false)), .emp, .emp]), .n (.st none 3 (.t 4) (.t 11)), .n (.st none 3 (.t 5) (.t 16))])
 (.fg [1, 2, 3, 4, 5] (.seq (.ops false [.u 17 (.ld none 3 true (.t 4)), .u 18 (.ld none 3 true (.t 5)), .u 19 (.call f2 [(.t 17), (.t 18)]), .u 6 (.alloc [(.lit (.bool false)), .emp, .emp]), .n (.st none 3 (.t 6) (.t 19))])
 (.fg [1, 2, 3, 4, 5, 6] (.seq (.ops true [.u 20 (.ld none 3 true (.t 4)), .u 21 (.ld none 3 true (.t 5)), .u 22 (.call f3 [(.t 20), (.t 21)]), .u 23 (.ld none 3 true (.t 6)), .u 24 (.call f4 [(.t 22), (.t 23)]), .u 25 (.fa 0 (.t 1)), .u 26 (.ld none 3 true (.t 25)), .u 27 (.fa 0 (.t 1)), .u 28 (.ld none 3 true (.t 27)), .u 29 (.call f2 [(.t 26), (.t 28)]), .u 30 (.ld none 3 true (.t 6)), .u 31 (.call f4 [(.t 29), (.t 30)]), .n (.st none 3 (.t 2) (.t 24)), .n (.st none 3 (.t 3) (.t 31))])
 .ret)))))))))
def ac_linkworkref17_Direction (f0 f1 f2 f3 f4 : Nat) : AC := (.seq (.ops false [.u 1 (.box 4 (.t 0)), .u 2 (.alloc [(.lit (.bool false)), .emp, .emp]), .u 3 (.alloc [(.lit (.bool false)), .emp, .emp])])
 (.fg [1, 2, 3] (.seq (.seq (.ops false [.u 7 (.fa 3 (.t 1)), .u 8 (.ld none 1 false (.t 7))])
 (.fg [1, 2, 3, 8] (.cond (.t 8) (.seq (.ops false [.u 9 (.call f0 [(.i (-1))]), .u 10 (.build [.z [(.lit (.bool false)), .emp, .emp]]), .n (.st none 3 (.t 2) (.t 9)), .n (.st none 3 (.t 3) (.t 10))])
 .ret) .skip)))
 (.fg [1, 2, 3] (.seq (.ops true [.u 11 (.call f0 [(.i 1)]), .u 12 (.fa 0 (.t 1)), .u 13 (.ld none 3 true (.t 12)), .u 14 (.fa 0 (.t 1)), .u 15 (.ld none 3 true (.t 14)), .u 16 (.call f1 [(.t 13), (.t 15)]), .u 4 (.alloc [(.lit (.bool false)), .emp, .emp]), .u 5 (.alloc [(.lit (.bool false)), .emp, .emp]), .n (.st none 3 (.t 4) (.t 11)), .n (.st none 3 (.t 5) (.t 16))])
 (.fg [1, 2, 3, 4, 5] (.seq (.ops false [.u 17 (.ld none 3 true (.t 4)), .u 18 (.ld none 3 true (.t 5)), .u 19 (.call f2 [(.t 17), (.t 18)]), .u 6 (.alloc [(.lit (.bool false)), .emp, .emp]), .n (.st none 3 (.t 6) (.t 19))])
 (.fg [1, 2, 3, 4, 5, 6] (.seq (.ops true [.u 20 (.ld none 3 true (.t 4)), .u 21 (.ld none 3 true (.t 5)), .u 22 (.call f3 [(.t 20), (.t 21)]), .u 23 (.ld none 3 true (.t 6)), .u 24 (.call f4 [(.t 22), (.t 23)]), .u 25 (.fa 0 (.t 1)), .u 26 (.ld none 3 true (.t 25)), .u 27 (.fa 0 (.t 1)), .u 28 (.ld none 3 true (.t 27)), .u 29 (.call f2 [(.t 26), (.t 28)]), .u 30 (.ld none 3 true (.t 6)), .u 31 (.call f4 [(.t 29), (.t 30)]), .n (.st none 3 (.t 2) (.t 24)), .n (.st none 3 (.t 3) (.t 31))])
 .ret)))))))))
def ac_linkworklaw38_Same (f0 : Nat) : AC := (.seq (.ops false [.u 2 (.box 6 (.t 0)), .u 3 (.box 6 (.t 1)), .m 4 .fa])
 (.fg [2, 3] (.seq (.ops false [.u 5 (.fa 0 (.t 2)), .u 6 (.ld none 3 true (.t 5)), .u 7 (.fa 0 (.t 3)), .u 8 (.ld none 3 true (.t 7)), .u 9 (.call f0 [(.t 6), (.t 8)]), .m 10 (.t 9), .w 11 10 true (.fa 3 (.t 2)), .w 12 10 true (.ld none 3 true (.t 11)), .w 13 10 true (.fa 3 (.t 3)), .w 14 10 true (.ld none 3 true (.t 13)), .w 15 10 true (.call f0 [(.t 12), (.t 14)]), .u 16 (.pick (.t 10) (.t 15) .fa), .m 4 (.t 16)])
 .ret)))
theorem mk_eta {α β : Type} (p : α × β) : (p.1, p.2) = p := rfl
theorem al1 {p : Arc} {b : Nat} (h : al p ≤ b) : rl p.1 ≤ b ∧ rl p.2 ≤ b := ⟨Nat.le_trans (Nat.le_max_left _ _) h, Nat.le_trans (Nat.le_max_right _ _) h⟩
theorem pvalid_sound (hΓ : Holds P Γ) {f fv : Nat} (hv : Γ fv = .dat true rvalid_G) (hc : check P f = some (11, (ac_threepos_valid fv).strip, [.tmp 2])) : Sound P f (.dat true pvalid_G) := by
 refine sound_dat hc pvalid_good hΓ (fun args K hcl hfi hG => ?_)
 match args, hG with
 | [a], hG =>
  obtain ⟨p, rfl, hp, hl, hK⟩ := hG
  refine ⟨by simp, ?_⟩
  obtain ⟨l1, l2⟩ := al1 hl
  unfold avld at hK
  cases h1 : vldR p.1 <;> cases h2 : vldR p.2
  all_goals
   rw [h1, h2] at hK
   simp only [go_sem, ac_threepos_valid, hv, aC_eq, hp.1, hp.2, h1, h2, Bool.false_eq_true, Bool.true_eq_false]
  ·exact ⟨by omega, hK⟩
  ·exact ⟨by omega, hK⟩
  ·exact ⟨by omega, by omega, hK⟩
  ·exact ⟨by omega, by omega, hK⟩
theorem pless_sound (hΓ : Holds P Γ) {f fs : Nat} (hs : Γ fs = .dat false rsub_G) (hc : check P f = some (16, (ac_threepos_sub fs).strip, [.cell 4 6 true])) : Sound P f (.dat false pless_G) := by
 refine sound_dat hc pless_good hΓ (fun args K hcl hfi hG => ?_)
 match args, hG with
 | [a, b], hG =>
  obtain ⟨p, rfl, hp, q, rfl, hq, hl, hl', hK⟩ := hG
  refine ⟨by simp, ?_⟩
  obtain ⟨l1, l2⟩ := al1 hl
  obtain ⟨l3, l4⟩ := al1 hl'
  simp only [go_sem, ac_threepos_sub, hs, aC_eq, hp.1, hp.2, hq.1, hq.2]
  exact ⟨by omega, by omega, by omega, by omega, hK⟩
theorem pplus_sound (hΓ : Holds P Γ) {f fs : Nat} (hs : Γ fs = .dat false radd_G) (hc : check P f = some (16, (ac_pose_add fs).strip, [.cell 4 6 true])) : Sound P f (.dat false pplus_G) := by
 refine sound_dat hc pplus_good hΓ (fun args K hcl hfi hG => ?_)
 match args, hG with
 | [a, b], hG =>
  obtain ⟨p, rfl, hp, q, rfl, hq, hl, hl', hK⟩ := hG
  refine ⟨by simp, ?_⟩
  obtain ⟨l1, l2⟩ := al1 hl
  obtain ⟨l3, l4⟩ := al1 hl'
  simp only [go_sem, ac_pose_add, hs, aC_eq, hp.1, hp.2, hq.1, hq.2]
  exact ⟨by omega, by omega, by omega, by omega, hK⟩
theorem pcross_sound (hΓ : Holds P Γ) {f fm fs : Nat} (hm : Γ fm = .dat false rmul_G) (hs : Γ fs = .dat false rsub_G) (hc : check P f = some (16, (ac_threepos_cross fm fs).strip, [.cell 4 3 true])) : Sound P f (.dat false pcross_G) := by
 refine sound_dat hc pcross_good hΓ (fun args K hcl hfi hG => ?_)
 match args, hG with
 | [a, b], hG =>
  obtain ⟨p, rfl, hp, q, rfl, hq, hl, hl', hK⟩ := hG
  refine ⟨by simp, ?_⟩
  obtain ⟨l1, l2⟩ := al1 hl
  obtain ⟨l3, l4⟩ := al1 hl'
  have r1 := rz_rv hp.1
  have r2 := rz_rv hp.2
  have r3 := rz_rv hq.1
  have r4 := rz_rv hq.2
  have m1 := rz_mul (rv p.1) (rv q.2)
  have m2 := rz_mul (rv p.2) (rv q.1)
  simp only [go_sem, ac_threepos_cross, hm, hs, aC_eq, hp.1, hp.2, hq.1, hq.2]
  exact ⟨by omega, by omega, by omega, by omega, by omega, by omega, hK⟩
theorem psq_sound (hΓ : Holds P Γ) {f fm fs : Nat} (hm : Γ fm = .dat false rmul_G) (hs : Γ fs = .dat false radd_G) (hc : check P f = some (14, (ac_threepos_square fm fs).strip, [.cell 2 3 true])) : Sound P f (.dat false psq_G) := by
 refine sound_dat hc psq_good hΓ (fun args K hcl hfi hG => ?_)
 match args, hG with
 | [a], hG =>
  obtain ⟨p, rfl, hp, hl, hK⟩ := hG
  refine ⟨by simp, ?_⟩
  obtain ⟨l1, l2⟩ := al1 hl
  have r1 := rz_rv hp.1
  have r2 := rz_rv hp.2
  have m1 := rz_mul (rv p.1) (rv p.1)
  have m2 := rz_mul (rv p.2) (rv p.2)
  simp only [go_sem, ac_threepos_square, hm, hs, aC_eq, hp.1, hp.2]
  exact ⟨by omega, by omega, by omega, by omega, by omega, by omega, hK⟩
theorem psame_sound (hΓ : Holds P Γ) {f fc : Nat} (hc' : Γ fc = .dat true rcmp02_G) (hc : check P f = some (19, (ac_threepos_same fc).strip, [.tmp 4])) : Sound P f (.dat true psame_G) := by
 refine sound_dat hc psame_good hΓ (fun args K hcl hfi hG => ?_)
 match args, hG with
 | [a, b], hG =>
  obtain ⟨p, rfl, hp, q, rfl, hq, hl, hl', hK⟩ := hG
  refine ⟨by simp, ?_⟩
  obtain ⟨l1, l2⟩ := al1 hl
  obtain ⟨l3, l4⟩ := al1 hl'
  have e : decide (av p = av q) = (decide (ordQ (rv p.1) (rv q.1) = 0) && decide (ordQ (rv p.2) (rv q.2) = 0)) := by
   rw [← Bool.decide_and, decide_eq_decide, ordQ_eq0, ordQ_eq0]
   exact Prod.mk.injEq _ _ _ _ ▸ Iff.rfl
  rw [e] at hK
  by_cases h1 : ordQ (rv p.1) (rv q.1) = 0
  ·rw [decide_eq_true h1, Bool.true_and] at hK
   simp only [go_sem, ac_threepos_same, hc', aC_eq, hp.1, hp.2, hq.1, hq.2, h1]
   exact ⟨by omega, by omega, by omega, by omega, hK⟩
  ·rw [decide_eq_false h1, Bool.false_and] at hK
   simp only [go_sem, ac_threepos_same, hc', aC_eq, hp.1, hp.2, hq.1, hq.2, h1]
   exact ⟨by omega, by omega, hK⟩
theorem pneg_sound (hΓ : Holds P Γ) {f fn : Nat} (hn : Γ fn = .dat false rneg_G) (hc : check P f = some (10, (ac_pose_neg fn).strip, [.cell 2 6 true])) : Sound P f (.dat false pneg_G) := by
 refine sound_dat hc pneg_good hΓ (fun args K hcl hfi hG => ?_)
 match args, hG with
 | [a], hG =>
  obtain ⟨p, rfl, hp, hl, hK⟩ := hG
  refine ⟨by simp, ?_⟩
  obtain ⟨l1, l2⟩ := al1 hl
  simp only [go_sem, ac_pose_neg, hn, aC_eq, hp.1, hp.2]
  exact ⟨by omega, by omega, hK⟩
theorem pclone_sound (hΓ : Holds P Γ) {f fs : Nat} (hs : Γ fs = .dat false pless_G) (hc : check P f = some (6, (ac_threepos_clone fs).strip, [.cell 2 6 true])) : Sound P f (.dat false pclone_G) := by
 refine sound_dat hc pclone_good hΓ (fun args K hcl hfi hG => ?_)
 match args, hG with
 | [a], hG =>
  obtain ⟨p, rfl, hp, hl, hK⟩ := hG
  refine ⟨by simp, ?_⟩
  obtain ⟨l1, l2⟩ := al1 hl
  have e : subQ (av p) (0, 0) = av p := by
   unfold subQ av; simp only [Prod.mk.injEq]; constructor <;> grind
  have e2 : av (rcan 0, rcan 0) = (0, 0) := by rw [av_mk, rv_rcan]
  have e3 : al (rcan 0, rcan 0) ≤ 100000000 := by rw [al_can, rz_0]; decide
  simp only [go_sem, ac_threepos_clone, hs, aC_eq, e2, e3, e]
  exact ⟨hp, hl, hK⟩
theorem rzero_sound (hΓ : Holds P Γ) {f fs : Nat} (hs : Γ fs = .dat true rsign_G) (hc : check P f = some (6, (ac_linkworkref17_Zero fs).strip, [.tmp 2])) : Sound P f (.dat true rzero_G) := by
 refine sound_dat hc rzero_good hΓ (fun args K hcl hfi hG => ?_)
 match args, hG with
 | [a], hG =>
  obtain ⟨x, rfl, hx, hl, hK⟩ := hG
  refine ⟨by simp, ?_⟩
  have e : decide (rv x = 0) = decide (ordQ (rv x) 0 = 0) := by rw [decide_eq_decide, ordQ_eq0]
  rw [e] at hK
  simp only [go_sem, ac_linkworkref17_Zero, hs, hx]
  exact ⟨hl, hK⟩
theorem rover_sound (hΓ : Holds P Γ) {f fd tE : Nat} (hd : Γ fd = .dat false (rdivE_G tE)) (hc : check P f = some (17, (ac_turn_over fd).strip, [.cell 4 3 true])) : Sound P f (.dat false rover_G) := by
 refine sound_dat hc rover_good hΓ (fun args K hcl hfi hG => ?_)
 match args, hG with
 | [a, b], hG =>
  obtain ⟨x, rfl, hx, y, rfl, hy, hl, hl', hK⟩ := hG
  refine ⟨by simp, ?_⟩
  by_cases h0 : rv y = 0
  ·rw [h0, Rat.div_def, Rat.inv_zero, Rat.mul_zero, rQ_eq, rcan_zero] at hK
   have e : errV tE 8 = .one (.lit (.iface tE (.int .i64 8))) := errV_s tE (by decide)
   simp only [go_sem, ac_turn_over, hd, hx, hy, h0, e]
   exact ⟨by omega, by omega, hK⟩
  ·simp only [go_sem, ac_turn_over, hd, hx, hy, h0, errV_0]
   exact ⟨by omega, by omega, hK⟩
theorem roverN_sound (hΓ : Holds P Γ) {f fd : Nat} (hd : Γ fd = .dat false rdivN_G) (hc : check P f = some (14, (ac_linkworkref17_over fd).strip, [.cell 4 3 true])) : Sound P f (.dat false rover_G) := by
 refine sound_dat hc rover_good hΓ (fun args K hcl hfi hG => ?_)
 match args, hG with
 | [a, b], hG =>
  obtain ⟨x, rfl, hx, y, rfl, hy, hl, hl', hK⟩ := hG
  refine ⟨by simp, ?_⟩
  simp only [go_sem, ac_linkworkref17_over, hd, hx, hy]
  exact ⟨hl, hl', hK⟩
theorem tneg_sound (hΓ : Holds P Γ) {f fn : Nat} (hn : Γ fn = .dat false rneg_G) (hc : check P f = some (9, (ac_turn_neg fn).strip, [.cell 2 4 true])) : Sound P f (.dat false tneg_G) := by
 refine sound_dat hc tneg_good hΓ (fun args K hcl hfi hG => ?_)
 match args, hG with
 | [a], hG =>
  obtain ⟨t, rfl, ht, hl, hK⟩ := hG
  refine ⟨by simp, ?_⟩
  simp only [go_sem, ac_turn_neg, hn, tA, tC, ht]
  exact ⟨by omega, hK⟩
theorem tchk_t (t : Tn) : tchk t = if vldR t.1 = true ∧ ¬ (t.2 = true ∧ rv t.1 ≠ 0) then 0 else 2 := rfl
theorem tcheck_sound (hΓ : Holds P Γ) {f fv fs tE : Nat} (hv : Γ fv = .dat true rvalid_G) (hs : Γ fs = .dat true rsign_G) (hc : check P f = some (18, (ac_turn_Check fv fs tE).strip, [.tmp 2])) : Sound P f (.dat false (tcheck_G tE)) := by
 refine sound_dat hc (tcheck_good tE) hΓ (fun args K hcl hfi hG => ?_)
 match args, hG with
 | [a], hG =>
  obtain ⟨t, rfl, ht, hl, hK⟩ := hG
  refine ⟨by simp, ?_⟩
  rw [tchk_t] at hK
  have e2 : errV tE 2 = .one (.lit (.iface tE (.int .i64 2))) := errV_s tE (by decide)
  cases h1 : vldR t.1 with
  | false =>
   rw [if_neg (fun h => by rw [h1] at h; exact absurd h.1 (by decide)), e2] at hK
   simp only [go_sem, ac_turn_Check, hv, hs, tA, tC, ht, h1]
   exact ⟨by omega, hK⟩
  | true =>
   cases h2 : t.2 with
   | false =>
    rw [if_pos ⟨h1, fun h => by rw [h2] at h; exact absurd h.1 (by decide)⟩, errV_0] at hK
    simp only [go_sem, ac_turn_Check, hv, hs, tA, tC, ht, h1, h2]
    exact ⟨by omega, hK⟩
   | true =>
    by_cases h3 : ordQ (rv t.1) 0 = 0
    ·rw [if_pos ⟨h1, fun h => h.2 (ordQ_eq0.1 h3)⟩, errV_0] at hK
     simp only [go_sem, ac_turn_Check, hv, hs, tA, tC, ht, h1, h2, h3]
     exact ⟨by omega, by omega, hK⟩
    ·rw [if_neg (fun h => h.2 ⟨h2, fun e => h3 (ordQ_eq0.2 e)⟩), e2] at hK
     simp only [go_sem, ac_turn_Check, hv, hs, tA, tC, ht, h1, h2, h3]
     exact ⟨by omega, by omega, hK⟩
theorem tvalid_sound (hΓ : Holds P Γ) {f fv fz : Nat} (hv : Γ fv = .dat true rvalid_G) (hz : Γ fz = .dat true rzero_G) (hc : check P f = some (16, (ac_linkworkref17_Turn fv fz).strip, [.tmp 2])) : Sound P f (.dat true tvalid_G) := by
 refine sound_dat hc tvalid_good hΓ (fun args K hcl hfi hG => ?_)
 match args, hG with
 | [a], hG =>
  obtain ⟨t, rfl, ht, hl, hK⟩ := hG
  refine ⟨by simp, ?_⟩
  rw [tchk_t] at hK
  cases h1 : vldR t.1 with
  | false =>
   rw [if_neg (fun h => by rw [h1] at h; exact absurd h.1 (by decide))] at hK
   simp only [go_sem, ac_linkworkref17_Turn, hv, hz, tA, tC, ht, h1]
   exact ⟨by omega, hK⟩
  | true =>
   cases h2 : t.2 with
   | false =>
    rw [if_pos ⟨h1, fun h => by rw [h2] at h; exact absurd h.1 (by decide)⟩] at hK
    simp only [go_sem, ac_linkworkref17_Turn, hv, hz, tA, tC, ht, h1, h2]
    exact ⟨by omega, hK⟩
   | true =>
    by_cases h3 : rv t.1 = 0
    ·rw [if_pos ⟨h1, fun h => h.2 h3⟩] at hK
     simp only [go_sem, ac_linkworkref17_Turn, hv, hz, tA, tC, ht, h1, h2, h3]
     exact ⟨by omega, by omega, hK⟩
    ·rw [if_neg (fun h => h.2 ⟨h2, h3⟩)] at hK
     simp only [go_sem, ac_linkworkref17_Turn, hv, hz, tA, tC, ht, h1, h2, h3]
     exact ⟨by omega, by omega, hK⟩
theorem pl1 {p : Ps} {b : Nat} (h : pl p ≤ b) : rl p.1.1 ≤ b ∧ al p.2 ≤ b := ⟨Nat.le_trans (Nat.le_max_left _ _) h, Nat.le_trans (Nat.le_max_right _ _) h⟩
theorem tchk_02 (t : Tn) : tchk t = 0 ∨ tchk t = 2 := by unfold tchk; split <;> simp
theorem pvld_sound (hΓ : Holds P Γ) {f ft fp : Nat} {tE : Nat} (ht : Γ ft = .dat false (tcheck_G tE)) (hp' : Γ fp = .dat true pvalid_G) (hc : check P f = some (12, (ac_pose_Valid ft fp).strip, [.tmp 2])) : Sound P f (.dat true pvld_G) := by
 refine sound_dat hc pvld_good hΓ (fun args K hcl hfi hG => ?_)
 match args, hG with
 | [a], hG =>
  obtain ⟨p, rfl, hp, hl, hK⟩ := hG
  refine ⟨by simp, ?_⟩
  obtain ⟨l1, l2⟩ := pl1 hl
  unfold pvld at hK
  rcases tchk_02 p.1 with h | h
  ·rw [h] at hK
   simp only [go_sem, ac_pose_Valid, ht, hp', poA, pC, mk_eta, h, errV_0, hp.1, hp.2]
   exact ⟨l1, l2, hK⟩
  ·have e2 : errV tE 2 = .one (.lit (.iface tE (.int .i64 2))) := errV_s tE (by decide)
   rw [h] at hK
   simp only [go_sem, ac_pose_Valid, ht, hp', poA, pC, mk_eta, h, e2, hp.1, hp.2]
   exact ⟨l1, hK⟩
theorem pvldN_sound (hΓ : Holds P Γ) {f ft fp : Nat} (ht : Γ ft = .dat true tvalid_G) (hp' : Γ fp = .dat true pvalid_G) (hc : check P f = some (11, (ac_linkworkref17_Valid ft fp).strip, [.tmp 2])) : Sound P f (.dat true pvld_G) := by
 refine sound_dat hc pvld_good hΓ (fun args K hcl hfi hG => ?_)
 match args, hG with
 | [a], hG =>
  obtain ⟨p, rfl, hp, hl, hK⟩ := hG
  refine ⟨by simp, ?_⟩
  obtain ⟨l1, l2⟩ := pl1 hl
  unfold pvld at hK
  by_cases h : tchk p.1 = 0
  ·rw [decide_eq_true h] at hK
   simp only [go_sem, ac_linkworkref17_Valid, ht, hp', poA, pC, mk_eta, h, hp.1, hp.2]
   exact ⟨l1, ⟨l2, hK⟩, fun h => absurd trivial h⟩
  ·rw [decide_eq_false h] at hK
   simp only [go_sem, ac_linkworkref17_Valid, ht, hp', poA, pC, mk_eta, h, hp.1, hp.2]
   exact ⟨l1, hK⟩
theorem tdir_sound (hΓ : Holds P Γ) {f fo fm fa fs fv : Nat} (ho : Γ fo = .dat false rof_G) (hm : Γ fm = .dat false rmul_G) (ha : Γ fa = .dat false radd_G) (hs : Γ fs = .dat false rsub_G) (hov : Γ fv = .dat false rover_G) (hc : check P f = some (32, (ac_turn_direction fo fm fa fs fv).strip, [.cell 2 3 true, .cell 3 3 true])) : Sound P f (.dat false tdir_G) := by
 refine sound_dat hc tdir_good hΓ (fun args K hcl hfi hG => ?_)
 match args, hG with
 | [a], hG =>
  obtain ⟨t, rfl, ht, hl, hK⟩ := hG
  refine ⟨by simp, ?_⟩
  have r1 := rz_rv ht
  have h0 := rz_1
  have h1 := rz_mul (rv t.1) (rv t.1)
  have h2 := rz_sub 1 (rv t.1 * rv t.1)
  have h3 := rz_add 1 (rv t.1 * rv t.1)
  have h4 := rz_add (rv t.1) (rv t.1)
  have c1 : ((1 : Int) : Rat) = 1 := rfl
  have c2 : ((-1 : Int) : Rat) = -1 := rfl
  unfold cosQ sinQ at hK
  cases hh : t.2 with
  | true =>
   have e : (tv t).2 = true := hh
   rw [if_pos e, if_pos e] at hK
   simp only [go_sem, ac_turn_direction, ho, hm, ha, hs, hov, tA, tC, ht, hh, c1, c2]
   refine ⟨by decide, by decide, ?_⟩
   simp only [rQ_eq, rcan_zero] at hK
   exact hK
  | false =>
   have e : ¬ ((tv t).2 = true) := by show ¬ (t.2 = true); rw [hh]; decide
   rw [if_neg e, if_neg e] at hK
   simp only [go_sem, ac_turn_direction, ho, hm, ha, hs, hov, tA, tC, ht, hh, c1, c2]
   refine ⟨by decide, by decide, by omega, by omega, by omega, by omega, by omega, by omega, by omega, by omega, by omega, by omega, by omega, by omega, hK⟩
theorem lsame_sound (hΓ : Holds P Γ) {f fb : Nat} (hb : Γ fb = .dat true brat_G) (hc : check P f = some (17, (ac_linkworklaw38_Same fb).strip, [.tmp 4])) : Sound P f (.dat true lsame_G) := by
 refine sound_dat hc lsame_good hΓ (fun args K hcl hfi hG => ?_)
 match args, hG with
 | [a, b], hG =>
  obtain ⟨p, rfl, hp, q, rfl, hq, hl, hK⟩ := hG
  refine ⟨by simp, ?_⟩
  obtain ⟨l1, l2⟩ := al1 hl
  have e : decide (p = q) = (decide (p.1 = q.1) && decide (p.2 = q.2)) := by
   rw [← Bool.decide_and, decide_eq_decide]
   exact Prod.ext_iff
  rw [e] at hK
  by_cases h1 : p.1 = q.1
  ·rw [decide_eq_true h1, Bool.true_and] at hK
   simp only [go_sem, ac_linkworklaw38_Same, hb, aC_eq, hp.1, hp.2, hq.1, hq.2, h1, decide_true]
   exact ⟨by rw [← h1]; exact l1, l2, hK⟩
  ·rw [decide_eq_false h1, Bool.false_and] at hK
   simp only [go_sem, ac_linkworklaw38_Same, hb, aC_eq, hp.1, hp.2, hq.1, hq.2, h1, decide_false]
   exact ⟨l1, hK⟩
end Go.Abs
end
section
set_option linter.unusedVariables false
set_option linter.unusedSimpArgs false
set_option maxRecDepth 100000
namespace Go.Num
open Go.Abs
def aok (p : Ps) (q : Arc) : Bool := pvld p && avld q
def plchk (l : List Ps) : Nat := if l.length < 2 then 10 else if 5 < l.length then 4 else if l.all pvld then 0 else 2
def threeC (l : List Ps) : Nat := if plchk l ≠ 0 then plchk l else if l.length = 3 then 0 else 10
def imgs (l : List Ps) (q : Arc) : List V2 := l.map fun p => appQ (pv p) (av q)
def imgC (l : List Ps) (q : Arc) : Nat := if l.all (fun p => aok p q) then 0 else 2
theorem tchk_neg {t : Tn} (h : tchk t = 0) : tchk (rcan (-rv t.1), t.2) = 0 := by
 unfold tchk at *
 split at h
 ·rename_i h1
  rw [if_pos]
  refine ⟨vld_rcan _, fun h2 => h1.2 ⟨h2.1, fun e => h2.2 ?_⟩⟩
  show rv (rcan (-rv t.1)) = 0
  rw [rv_rcan, e]; rfl
 ·contradiction
theorem tchk_can (t : Rat) (h : Bool) : tchk (rcan t, h) = if h = true ∧ t ≠ 0 then 2 else 0 := by
 unfold tchk
 simp only [vld_rcan, rv_rcan, true_and]
 by_cases hh : h = true ∧ t ≠ 0
 ·rw [if_neg (fun k => k hh), if_pos hh]
 ·rw [if_pos hh, if_neg hh]
end Go.Num
namespace Go.Abs
open Go.Num
variable {P : Program} {Γ : Nat → Spec}
def psQ (p : PsQ) : AV := .agg [cb (rcan p.1.1), cn (rcan p.1.1), cd (rcan p.1.1), .lit (.bool p.1.2), cb (rcan p.2.1), cn (rcan p.2.1), cd (rcan p.2.1), cb (rcan p.2.2), cn (rcan p.2.2), cd (rcan p.2.2)]
theorem psQ_eq (p : PsQ) : psQ p = .agg [cb (rcan p.1.1), cn (rcan p.1.1), cd (rcan p.1.1), .lit (.bool p.1.2), cb (rcan p.2.1), cn (rcan p.2.1), cd (rcan p.2.1), cb (rcan p.2.2), cn (rcan p.2.2), cd (rcan p.2.2)] := eq_of_heq (HEq.refl _)
attribute [go_sem] psQ_eq
attribute [go_sem ↓] psQ_eq
def tcos_G (tE : Nat) (l : List AV) (K : AV → Prop) : Prop :=
 match l with
 | [a] => onT (fun t => rl t.1 ≤ 10000000 ∧ K (.tup [rQ (if tchk t = 0 then cosQ (tv t) else 0), errV tE (tchk t)])) a
 | _ => False
theorem tcos_Ge (tE : Nat) (a : AV) (K : AV → Prop) : tcos_G tE [a] K = (onT (fun t => rl t.1 ≤ 10000000 ∧ K (.tup [rQ (if tchk t = 0 then cosQ (tv t) else 0), errV tE (tchk t)])) a) := propext Iff.rfl
@[congr] theorem tcos_Gc (tE : Nat) {K : AV → Prop} {l l' : List AV} (h : l = l') : tcos_G tE l K = tcos_G tE l' K := by subst h; rfl
attribute [go_sem] tcos_Ge
attribute [go_sem ↓] tcos_Ge
theorem tcos_good (tE : Nat) : Good (tcos_G tE) := good_of fun as => by
 unfold tcos_G
 split
 ·exact (g_onT fun _ => (.and fun _ => (.ret _)))
 ·exact .of fun K hk => hk.elim
def tsin_G (tE : Nat) (l : List AV) (K : AV → Prop) : Prop :=
 match l with
 | [a] => onT (fun t => rl t.1 ≤ 10000000 ∧ K (.tup [rQ (if tchk t = 0 then sinQ (tv t) else 0), errV tE (tchk t)])) a
 | _ => False
theorem tsin_Ge (tE : Nat) (a : AV) (K : AV → Prop) : tsin_G tE [a] K = (onT (fun t => rl t.1 ≤ 10000000 ∧ K (.tup [rQ (if tchk t = 0 then sinQ (tv t) else 0), errV tE (tchk t)])) a) := propext Iff.rfl
@[congr] theorem tsin_Gc (tE : Nat) {K : AV → Prop} {l l' : List AV} (h : l = l') : tsin_G tE l K = tsin_G tE l' K := by subst h; rfl
attribute [go_sem] tsin_Ge
attribute [go_sem ↓] tsin_Ge
theorem tsin_good (tE : Nat) : Good (tsin_G tE) := good_of fun as => by
 unfold tsin_G
 split
 ·exact (g_onT fun _ => (.and fun _ => (.ret _)))
 ·exact .of fun K hk => hk.elim
def pdir_G (tE : Nat) (l : List AV) (K : AV → Prop) : Prop :=
 match l with
 | [a] => onT (fun t => rl t.1 ≤ 10000000 ∧ K (.tup [rQ (if tchk t = 0 then cosQ (tv t) else 0), rQ (if tchk t = 0 then sinQ (tv t) else 0), errV tE (tchk t)])) a
 | _ => False
theorem pdir_Ge (tE : Nat) (a : AV) (K : AV → Prop) : pdir_G tE [a] K = (onT (fun t => rl t.1 ≤ 10000000 ∧ K (.tup [rQ (if tchk t = 0 then cosQ (tv t) else 0), rQ (if tchk t = 0 then sinQ (tv t) else 0), errV tE (tchk t)])) a) := propext Iff.rfl
@[congr] theorem pdir_Gc (tE : Nat) {K : AV → Prop} {l l' : List AV} (h : l = l') : pdir_G tE l K = pdir_G tE l' K := by subst h; rfl
attribute [go_sem] pdir_Ge
attribute [go_sem ↓] pdir_Ge
theorem pdir_good (tE : Nat) : Good (pdir_G tE) := good_of fun as => by
 unfold pdir_G
 split
 ·exact (g_onT fun _ => (.and fun _ => (.ret _)))
 ·exact .of fun K hk => hk.elim
def prot_G (tE : Nat) (l : List AV) (K : AV → Prop) : Prop :=
 match l with
 | [a, b] => onT (fun t => onA (fun q => rl t.1 ≤ 10000000 ∧ al q ≤ 10000000 ∧ K (.tup [pQ (if tchk t = 0 then rotQ (tv t) (av q) else (0, 0)), errV tE (tchk t)])) b) a
 | _ => False
theorem prot_Ge (tE : Nat) (a b : AV) (K : AV → Prop) : prot_G tE [a, b] K = (onT (fun t => onA (fun q => rl t.1 ≤ 10000000 ∧ al q ≤ 10000000 ∧ K (.tup [pQ (if tchk t = 0 then rotQ (tv t) (av q) else (0, 0)), errV tE (tchk t)])) b) a) := propext Iff.rfl
@[congr] theorem prot_Gc (tE : Nat) {K : AV → Prop} {l l' : List AV} (h : l = l') : prot_G tE l K = prot_G tE l' K := by subst h; rfl
attribute [go_sem] prot_Ge
attribute [go_sem ↓] prot_Ge
theorem prot_good (tE : Nat) : Good (prot_G tE) := good_of fun as => by
 unfold prot_G
 split
 ·exact (g_onT fun _ => (g_onA fun _ => (.and fun _ => (.and fun _ => (.ret _)))))
 ·exact .of fun K hk => hk.elim
def rrot_G (l : List AV) (K : AV → Prop) : Prop :=
 match l with
 | [a, b] => onT (fun t => onA (fun q => rl t.1 ≤ 10000000 ∧ al q ≤ 10000000 ∧ K (pQ (rotQ (tv t) (av q)))) b) a
 | _ => False
theorem rrot_Ge (a b : AV) (K : AV → Prop) : rrot_G [a, b] K = (onT (fun t => onA (fun q => rl t.1 ≤ 10000000 ∧ al q ≤ 10000000 ∧ K (pQ (rotQ (tv t) (av q)))) b) a) := propext Iff.rfl
@[congr] theorem rrot_Gc {K : AV → Prop} {l l' : List AV} (h : l = l') : rrot_G l K = rrot_G l' K := by subst h; rfl
attribute [go_sem] rrot_Ge
attribute [go_sem ↓] rrot_Ge
theorem rrot_good : Good rrot_G := good_of fun as => by
 unfold rrot_G
 split
 ·exact (g_onT fun _ => (g_onA fun _ => (.and fun _ => (.and fun _ => (.ret _)))))
 ·exact .of fun K hk => hk.elim
def papp_G (tE : Nat) (l : List AV) (K : AV → Prop) : Prop :=
 match l with
 | [a, b] => onPo (fun p => onA (fun q => pl p ≤ 1000000 ∧ al q ≤ 1000000 ∧ K (.tup [pQ (if aok p q = true then appQ (pv p) (av q) else (0, 0)), errV tE (if aok p q = true then 0 else 2)])) b) a
 | _ => False
theorem papp_Ge (tE : Nat) (a b : AV) (K : AV → Prop) : papp_G tE [a, b] K = (onPo (fun p => onA (fun q => pl p ≤ 1000000 ∧ al q ≤ 1000000 ∧ K (.tup [pQ (if aok p q = true then appQ (pv p) (av q) else (0, 0)), errV tE (if aok p q = true then 0 else 2)])) b) a) := propext Iff.rfl
@[congr] theorem papp_Gc (tE : Nat) {K : AV → Prop} {l l' : List AV} (h : l = l') : papp_G tE l K = papp_G tE l' K := by subst h; rfl
attribute [go_sem] papp_Ge
attribute [go_sem ↓] papp_Ge
theorem papp_good (tE : Nat) : Good (papp_G tE) := good_of fun as => by
 unfold papp_G
 split
 ·exact (g_onPo fun _ => (g_onA fun _ => (.and fun _ => (.and fun _ => (.ret _)))))
 ·exact .of fun K hk => hk.elim
def rapp_G (l : List AV) (K : AV → Prop) : Prop :=
 match l with
 | [a, b] => onPo (fun p => onA (fun q => pl p ≤ 1000000 ∧ al q ≤ 1000000 ∧ K (pQ (appQ (pv p) (av q)))) b) a
 | _ => False
theorem rapp_Ge (a b : AV) (K : AV → Prop) : rapp_G [a, b] K = (onPo (fun p => onA (fun q => pl p ≤ 1000000 ∧ al q ≤ 1000000 ∧ K (pQ (appQ (pv p) (av q)))) b) a) := propext Iff.rfl
@[congr] theorem rapp_Gc {K : AV → Prop} {l l' : List AV} (h : l = l') : rapp_G l K = rapp_G l' K := by subst h; rfl
attribute [go_sem] rapp_Ge
attribute [go_sem ↓] rapp_Ge
theorem rapp_good : Good rapp_G := good_of fun as => by
 unfold rapp_G
 split
 ·exact (g_onPo fun _ => (g_onA fun _ => (.and fun _ => (.and fun _ => (.ret _)))))
 ·exact .of fun K hk => hk.elim
def ptneg_G (tE : Nat) (l : List AV) (K : AV → Prop) : Prop :=
 match l with
 | [a] => onT (fun t => rl t.1 ≤ 10000000 ∧ K (.tup [tQ (if tchk t = 0 then backQ (tv t) else (0, false)), errV tE (tchk t)])) a
 | _ => False
theorem ptneg_Ge (tE : Nat) (a : AV) (K : AV → Prop) : ptneg_G tE [a] K = (onT (fun t => rl t.1 ≤ 10000000 ∧ K (.tup [tQ (if tchk t = 0 then backQ (tv t) else (0, false)), errV tE (tchk t)])) a) := propext Iff.rfl
@[congr] theorem ptneg_Gc (tE : Nat) {K : AV → Prop} {l l' : List AV} (h : l = l') : ptneg_G tE l K = ptneg_G tE l' K := by subst h; rfl
attribute [go_sem] ptneg_Ge
attribute [go_sem ↓] ptneg_Ge
theorem ptneg_good (tE : Nat) : Good (ptneg_G tE) := good_of fun as => by
 unfold ptneg_G
 split
 ·exact (g_onT fun _ => (.and fun _ => (.ret _)))
 ·exact .of fun K hk => hk.elim
def pinv_G (tE : Nat) (l : List AV) (K : AV → Prop) : Prop :=
 match l with
 | [a] => onPo (fun p => pl p ≤ 1000000 ∧ K (.tup [psQ (if pvld p = true then invQ (pv p) else ((0, false), (0, 0))), errV tE (if pvld p = true then 0 else 2)])) a
 | _ => False
theorem pinv_Ge (tE : Nat) (a : AV) (K : AV → Prop) : pinv_G tE [a] K = (onPo (fun p => pl p ≤ 1000000 ∧ K (.tup [psQ (if pvld p = true then invQ (pv p) else ((0, false), (0, 0))), errV tE (if pvld p = true then 0 else 2)])) a) := propext Iff.rfl
@[congr] theorem pinv_Gc (tE : Nat) {K : AV → Prop} {l l' : List AV} (h : l = l') : pinv_G tE l K = pinv_G tE l' K := by subst h; rfl
attribute [go_sem] pinv_Ge
attribute [go_sem ↓] pinv_Ge
theorem pinv_good (tE : Nat) : Good (pinv_G tE) := good_of fun as => by
 unfold pinv_G
 split
 ·exact (g_onPo fun _ => (.and fun _ => (.ret _)))
 ·exact .of fun K hk => hk.elim
def rinv_G (l : List AV) (K : AV → Prop) : Prop :=
 match l with
 | [a] => onPo (fun p => pl p ≤ 1000000 ∧ K (psQ (invQ (pv p)))) a
 | _ => False
theorem rinv_Ge (a : AV) (K : AV → Prop) : rinv_G [a] K = (onPo (fun p => pl p ≤ 1000000 ∧ K (psQ (invQ (pv p)))) a) := propext Iff.rfl
@[congr] theorem rinv_Gc {K : AV → Prop} {l l' : List AV} (h : l = l') : rinv_G l K = rinv_G l' K := by subst h; rfl
attribute [go_sem] rinv_Ge
attribute [go_sem ↓] rinv_Ge
theorem rinv_good : Good rinv_G := good_of fun as => by
 unfold rinv_G
 split
 ·exact (g_onPo fun _ => (.and fun _ => (.ret _)))
 ·exact .of fun K hk => hk.elim
def ac_turn_Cos (f0 f1 : Nat) : AC := (.seq (.ops false [.u 1 (.box 4 (.t 0)), .u 2 (.alloc [(.lit (.bool false)), .emp, .emp]), .m 3 (.c (.one (.lit .nilIface)))])
 (.fg [1, 2] (.seq (.seq (.ops false [.u 7 (.ld none 4 true (.t 1)), .u 8 (.call f0 [(.t 7)]), .m 4 (.t 8)])
 (.fg [1, 2, 4] (.seq (.ops false [.m 9 (.t 4), .u 10 (.binn .neq (.t 9) (.c (.one (.lit .nilIface))))])
 (.fg [1, 2, 4, 10] (.cond (.t 10) (.seq (.ops false [.u 11 (.build [.z [(.lit (.bool false)), .emp, .emp]]), .m 12 (.t 4), .n (.st none 3 (.t 2) (.t 11)), .m 3 (.t 12)])
 .ret) .skip)))))
 (.fg [1, 2] (.seq (.ops false [.u 14 (.ld none 4 true (.t 1)), .u 15 (.call f1 [(.t 14)]), .m 13 (.t 15), .u 16 (.ext 0 (.t 13)), .u 17 (.ext 1 (.t 13)), .u 5 (.alloc [(.lit (.bool false)), .emp, .emp]), .u 6 (.alloc [(.lit (.bool false)), .emp, .emp]), .n (.st none 3 (.t 5) (.t 16)), .n (.st none 3 (.t 6) (.t 17))])
 (.fg [2, 5] (.seq (.ops false [.u 18 (.ld none 3 true (.t 5)), .n (.st none 3 (.t 2) (.t 18)), .m 3 (.c (.one (.lit .nilIface)))])
 .ret)))))))
def ac_turn_Sin (f0 f1 : Nat) : AC := (.seq (.ops false [.u 1 (.box 4 (.t 0)), .u 2 (.alloc [(.lit (.bool false)), .emp, .emp]), .m 3 (.c (.one (.lit .nilIface)))])
 (.fg [1, 2] (.seq (.seq (.ops false [.u 7 (.ld none 4 true (.t 1)), .u 8 (.call f0 [(.t 7)]), .m 4 (.t 8)])
 (.fg [1, 2, 4] (.seq (.ops false [.m 9 (.t 4), .u 10 (.binn .neq (.t 9) (.c (.one (.lit .nilIface))))])
 (.fg [1, 2, 4, 10] (.cond (.t 10) (.seq (.ops false [.u 11 (.build [.z [(.lit (.bool false)), .emp, .emp]]), .m 12 (.t 4), .n (.st none 3 (.t 2) (.t 11)), .m 3 (.t 12)])
 .ret) .skip)))))
 (.fg [1, 2] (.seq (.ops false [.u 14 (.ld none 4 true (.t 1)), .u 15 (.call f1 [(.t 14)]), .m 13 (.t 15), .u 16 (.ext 0 (.t 13)), .u 17 (.ext 1 (.t 13)), .u 5 (.alloc [(.lit (.bool false)), .emp, .emp]), .u 6 (.alloc [(.lit (.bool false)), .emp, .emp]), .n (.st none 3 (.t 5) (.t 16)), .n (.st none 3 (.t 6) (.t 17))])
 (.fg [2, 6] (.seq (.ops false [.u 18 (.ld none 3 true (.t 6)), .n (.st none 3 (.t 2) (.t 18)), .m 3 (.c (.one (.lit .nilIface)))])
 .ret)))))))
def ac_turn_Neg (f0 f1 : Nat) : AC := (.seq (.ops false [.u 1 (.box 4 (.t 0)), .u 2 (.alloc [(.lit (.bool false)), .emp, .emp, (.lit (.bool false))]), .m 3 (.c (.one (.lit .nilIface)))])
 (.fg [1, 2] (.seq (.seq (.ops false [.u 5 (.ld none 4 true (.t 1)), .u 6 (.call f0 [(.t 5)]), .m 4 (.t 6)])
 (.fg [1, 2, 4] (.seq (.ops false [.m 7 (.t 4), .u 8 (.binn .neq (.t 7) (.c (.one (.lit .nilIface))))])
 (.fg [1, 2, 4, 8] (.cond (.t 8) (.seq (.ops false [.u 9 (.build [.z [(.lit (.bool false)), .emp, .emp, (.lit (.bool false))]]), .m 10 (.t 4), .n (.st none 4 (.t 2) (.t 9)), .m 3 (.t 10)])
 .ret) .skip)))))
 (.fg [1, 2] (.seq (.ops false [.u 11 (.ld none 4 true (.t 1)), .u 12 (.call f1 [(.t 11)]), .n (.st none 4 (.t 2) (.t 12)), .m 3 (.c (.one (.lit .nilIface)))])
 .ret)))))
def ac_pose_Direction (f0 f1 f2 tE : Nat) : AC := (.seq (.ops false [.u 1 (.box 4 (.t 0)), .u 2 (.alloc [(.lit (.bool false)), .emp, .emp]), .u 3 (.alloc [(.lit (.bool false)), .emp, .emp]), .m 4 (.c (.one (.lit .nilIface)))])
 (.fg [1, 2, 3] (.seq (.seq (.ops false [.u 5 (.ld none 4 true (.t 1)), .u 6 (.call f0 [(.t 5)]), .u 7 (.binn .neq (.t 6) (.c (.one (.lit .nilIface))))])
 (.fg [1, 2, 3, 7] (.cond (.t 7) (.seq (.ops false [.u 8 (.build [.z [(.lit (.bool false)), .emp, .emp]]), .u 9 (.build [.z [(.lit (.bool false)), .emp, .emp]]), .u 10 (.iface tE (.i 2)), .n (.st none 3 (.t 2) (.t 8)), .n (.st none 3 (.t 3) (.t 9)), .m 4 (.t 10)])
 .ret) .skip)))
 (.fg [1, 2, 3] (.seq (.seq (.ops false [.u 12 (.ld none 4 true (.t 1)), .u 13 (.call f1 [(.t 12)]), .m 11 (.t 13), .u 14 (.ext 0 (.t 11)), .u 15 (.ext 1 (.t 11)), .n (.st none 3 (.t 2) (.t 14)), .m 4 (.t 15)])
 (.fg [1, 2, 3, 4] (.seq (.ops false [.m 16 (.t 4), .u 17 (.binn .neq (.t 16) (.c (.one (.lit .nilIface))))])
 (.fg [1, 2, 3, 4, 17] (.cond (.t 17) (.seq (.ops false [.u 18 (.build [.z [(.lit (.bool false)), .emp, .emp]]), .u 19 (.build [.z [(.lit (.bool false)), .emp, .emp]]), .m 20 (.t 4), .n (.st none 3 (.t 2) (.t 18)), .n (.st none 3 (.t 3) (.t 19)), .m 4 (.t 20)])
 .ret) .skip)))))
 (.fg [1, 2, 3] (.seq (.ops false [.u 22 (.ld none 4 true (.t 1)), .u 23 (.call f2 [(.t 22)]), .m 21 (.t 23), .u 24 (.ext 0 (.t 21)), .u 25 (.ext 1 (.t 21)), .n (.st none 3 (.t 3) (.t 24)), .m 4 (.t 25)])
 (.fg [2, 3, 4] (.seq (.ops true [.u 26 (.ld (some 2) 3 true (.t 2)), .u 27 (.ld (some 3) 3 true (.t 3)), .m 28 (.t 4), .n (.st (some 2) 3 (.t 2) (.t 26)), .n (.st (some 3) 3 (.t 3) (.t 27)), .m 4 (.t 28)])
 .ret)))))))))
def ac_pose_rotate (f0 f1 f2 f3 : Nat) : AC := (.seq (.ops false [.u 2 (.box 4 (.t 0)), .u 3 (.box 6 (.t 1)), .u 4 (.alloc [(.lit (.bool false)), .emp, .emp, (.lit (.bool false)), .emp, .emp]), .m 5 (.c (.one (.lit .nilIface)))])
 (.fg [2, 3, 4] (.seq (.ops false [.u 10 (.ld none 4 true (.t 2)), .u 11 (.call f0 [(.t 10)]), .m 9 (.t 11), .u 12 (.ext 0 (.t 9)), .u 13 (.ext 1 (.t 9)), .u 14 (.ext 2 (.t 9)), .u 6 (.alloc [(.lit (.bool false)), .emp, .emp]), .u 7 (.alloc [(.lit (.bool false)), .emp, .emp]), .n (.st none 3 (.t 6) (.t 12)), .n (.st none 3 (.t 7) (.t 13)), .m 8 (.t 14)])
 (.fg [3, 4, 6, 7, 8] (.seq (.seq (.ops false [.m 15 (.t 8), .u 16 (.binn .neq (.t 15) (.c (.one (.lit .nilIface))))])
 (.fg [3, 4, 6, 7, 8, 16] (.cond (.t 16) (.seq (.ops false [.u 17 (.build [.z [(.lit (.bool false)), .emp, .emp, (.lit (.bool false)), .emp, .emp]]), .m 18 (.t 8), .n (.st none 6 (.t 4) (.t 17)), .m 5 (.t 18)])
 .ret) .skip)))
 (.fg [3, 4, 6, 7] (.seq (.ops true [.u 19 (.ld none 3 true (.t 6)), .u 20 (.fa 0 (.t 3)), .u 21 (.ld none 3 true (.t 20)), .u 22 (.call f1 [(.t 19), (.t 21)]), .u 23 (.ld none 3 true (.t 7)), .u 24 (.fa 3 (.t 3)), .u 25 (.ld none 3 true (.t 24)), .u 26 (.call f1 [(.t 23), (.t 25)]), .u 27 (.call f2 [(.t 22), (.t 26)]), .u 28 (.ld none 3 true (.t 7)), .u 29 (.fa 0 (.t 3)), .u 30 (.ld none 3 true (.t 29)), .u 31 (.call f1 [(.t 28), (.t 30)]), .u 32 (.ld none 3 true (.t 6)), .u 33 (.fa 3 (.t 3)), .u 34 (.ld none 3 true (.t 33)), .u 35 (.call f1 [(.t 32), (.t 34)]), .u 36 (.call f3 [(.t 31), (.t 35)]), .u 37 (.build [.x 3 (.t 27), .x 3 (.t 36)]), .n (.st none 6 (.t 4) (.t 37)), .m 5 (.c (.one (.lit .nilIface)))])
 .ret)))))))
def ac_linkworkref17_Rotate (f0 f1 f2 f3 : Nat) : AC := (.seq (.ops false [.u 2 (.box 4 (.t 0)), .u 3 (.box 6 (.t 1)), .u 4 (.alloc [(.lit (.bool false)), .emp, .emp, (.lit (.bool false)), .emp, .emp])])
 (.fg [2, 3, 4] (.seq (.ops false [.u 8 (.ld none 4 true (.t 2)), .u 9 (.call f0 [(.t 8)]), .m 7 (.t 9), .u 10 (.ext 0 (.t 7)), .u 11 (.ext 1 (.t 7)), .u 5 (.alloc [(.lit (.bool false)), .emp, .emp]), .u 6 (.alloc [(.lit (.bool false)), .emp, .emp]), .n (.st none 3 (.t 5) (.t 10)), .n (.st none 3 (.t 6) (.t 11))])
 (.fg [3, 4, 5, 6] (.seq (.ops true [.u 12 (.ld none 3 true (.t 5)), .u 13 (.fa 0 (.t 3)), .u 14 (.ld none 3 true (.t 13)), .u 15 (.call f1 [(.t 12), (.t 14)]), .u 16 (.ld none 3 true (.t 6)), .u 17 (.fa 3 (.t 3)), .u 18 (.ld none 3 true (.t 17)), .u 19 (.call f1 [(.t 16), (.t 18)]), .u 20 (.call f2 [(.t 15), (.t 19)]), .u 21 (.ld none 3 true (.t 6)), .u 22 (.fa 0 (.t 3)), .u 23 (.ld none 3 true (.t 22)), .u 24 (.call f1 [(.t 21), (.t 23)]), .u 25 (.ld none 3 true (.t 5)), .u 26 (.fa 3 (.t 3)), .u 27 (.ld none 3 true (.t 26)), .u 28 (.call f1 [(.t 25), (.t 27)]), .u 29 (.call f3 [(.t 24), (.t 28)]), .u 30 (.build [.x 3 (.t 20), .x 3 (.t 29)]), .n (.st none 6 (.t 4) (.t 30))])
 .ret)))))
def ac_pose_Apply (f0 f1 f2 f3 tE : Nat) : AC := (.seq (.ops false [.u 2 (.box 10 (.t 0)), .u 3 (.box 6 (.t 1)), .u 4 (.alloc [(.lit (.bool false)), .emp, .emp, (.lit (.bool false)), .emp, .emp]), .m 5 (.c (.one (.lit .nilIface)))])
 (.fg [2, 3, 4] (.seq (.seq (.ops false [.u 8 (.ld none 10 true (.t 2)), .u 9 (.call f0 [(.t 8)]), .u 10 (.un .not (.t 9)), .m 11 (.t 10), .w 12 11 false (.ld none 6 true (.t 3)), .w 13 11 false (.call f1 [(.t 12)]), .w 14 11 false (.un .not (.t 13)), .u 15 (.pick (.t 11) .tr (.t 14))])
 (.fg [2, 3, 4, 15] (.cond (.t 15) (.seq (.ops false [.u 16 (.build [.z [(.lit (.bool false)), .emp, .emp, (.lit (.bool false)), .emp, .emp]]), .u 17 (.iface tE (.i 2)), .n (.st none 6 (.t 4) (.t 16)), .m 5 (.t 17)])
 .ret) .skip)))
 (.fg [2, 3, 4] (.seq (.ops false [.u 19 (.fa 0 (.t 2)), .u 20 (.ld none 4 true (.t 19)), .u 21 (.ld none 6 true (.t 3)), .u 22 (.call f2 [(.t 20), (.t 21)]), .m 18 (.t 22), .u 23 (.ext 0 (.t 18)), .u 24 (.ext 1 (.t 18)), .u 6 (.alloc [(.lit (.bool false)), .emp, .emp, (.lit (.bool false)), .emp, .emp]), .n (.st none 6 (.t 6) (.t 23)), .m 7 (.t 24)])
 (.fg [2, 4, 6, 7] (.seq (.seq (.ops false [.m 25 (.t 7), .u 26 (.binn .neq (.t 25) (.c (.one (.lit .nilIface))))])
 (.fg [2, 4, 6, 7, 26] (.cond (.t 26) (.seq (.ops false [.u 27 (.build [.z [(.lit (.bool false)), .emp, .emp, (.lit (.bool false)), .emp, .emp]]), .m 28 (.t 7), .n (.st none 6 (.t 4) (.t 27)), .m 5 (.t 28)])
 .ret) .skip)))
 (.fg [2, 4, 6] (.seq (.ops false [.u 29 (.ld none 6 true (.t 6)), .u 30 (.fa 4 (.t 2)), .u 31 (.ld none 6 true (.t 30)), .u 32 (.call f3 [(.t 29), (.t 31)]), .n (.st none 6 (.t 4) (.t 32)), .m 5 (.c (.one (.lit .nilIface)))])
 .ret)))))))))
def ac_linkworkref17_Apply (f0 f1 : Nat) : AC := (.seq (.ops false [.u 2 (.box 10 (.t 0)), .u 3 (.box 6 (.t 1)), .u 4 (.alloc [(.lit (.bool false)), .emp, .emp, (.lit (.bool false)), .emp, .emp])])
 (.fg [2, 3, 4] (.seq (.ops true [.u 5 (.fa 0 (.t 2)), .u 6 (.ld none 4 true (.t 5)), .u 7 (.ld none 6 true (.t 3)), .u 8 (.call f0 [(.t 6), (.t 7)]), .u 9 (.fa 4 (.t 2)), .u 10 (.ld none 6 true (.t 9)), .u 11 (.call f1 [(.t 8), (.t 10)]), .n (.st none 6 (.t 4) (.t 11))])
 .ret)))
def ac_pose_Inverse (f0 f1 f2 f3 tE : Nat) : AC := (.seq (.ops false [.u 1 (.box 10 (.t 0)), .u 2 (.alloc [(.lit (.bool false)), .emp, .emp, (.lit (.bool false)), (.lit (.bool false)), .emp, .emp, (.lit (.bool false)), .emp, .emp]), .m 3 (.c (.one (.lit .nilIface)))])
 (.fg [1, 2] (.seq (.seq (.ops false [.u 7 (.ld none 10 true (.t 1)), .u 8 (.call f0 [(.t 7)]), .u 9 (.un .not (.t 8))])
 (.fg [1, 2, 9] (.cond (.t 9) (.seq (.ops false [.u 10 (.build [.z [(.lit (.bool false)), .emp, .emp, (.lit (.bool false)), (.lit (.bool false)), .emp, .emp, (.lit (.bool false)), .emp, .emp]]), .u 11 (.iface tE (.i 2)), .n (.st none 10 (.t 2) (.t 10)), .m 3 (.t 11)])
 .ret) .skip)))
 (.fg [1, 2] (.seq (.ops false [.u 13 (.fa 0 (.t 1)), .u 14 (.ld none 4 true (.t 13)), .u 15 (.call f1 [(.t 14)]), .m 12 (.t 15), .u 16 (.ext 0 (.t 12)), .u 17 (.ext 1 (.t 12)), .u 4 (.alloc [(.lit (.bool false)), .emp, .emp, (.lit (.bool false))]), .n (.st none 4 (.t 4) (.t 16)), .m 5 (.t 17)])
 (.fg [1, 2, 4, 5] (.seq (.seq (.ops false [.m 18 (.t 5), .u 19 (.binn .neq (.t 18) (.c (.one (.lit .nilIface))))])
 (.fg [1, 2, 4, 5, 19] (.cond (.t 19) (.seq (.ops false [.u 20 (.build [.z [(.lit (.bool false)), .emp, .emp, (.lit (.bool false)), (.lit (.bool false)), .emp, .emp, (.lit (.bool false)), .emp, .emp]]), .m 21 (.t 5), .n (.st none 10 (.t 2) (.t 20)), .m 3 (.t 21)])
 .ret) .skip)))
 (.fg [1, 2, 4] (.seq (.ops true [.u 23 (.ld none 4 true (.t 4)), .u 24 (.fa 4 (.t 1)), .u 25 (.ld none 6 true (.t 24)), .u 26 (.call f2 [(.t 25)]), .u 27 (.call f3 [(.t 23), (.t 26)]), .m 22 (.t 27), .u 28 (.ext 0 (.t 22)), .u 29 (.ext 1 (.t 22)), .u 6 (.alloc [(.lit (.bool false)), .emp, .emp, (.lit (.bool false)), .emp, .emp]), .n (.st none 6 (.t 6) (.t 28)), .m 5 (.t 29)])
 (.fg [2, 4, 5, 6] (.seq (.seq (.ops false [.m 30 (.t 5), .u 31 (.binn .neq (.t 30) (.c (.one (.lit .nilIface))))])
 (.fg [2, 4, 5, 6, 31] (.cond (.t 31) (.seq (.ops false [.u 32 (.build [.z [(.lit (.bool false)), .emp, .emp, (.lit (.bool false)), (.lit (.bool false)), .emp, .emp, (.lit (.bool false)), .emp, .emp]]), .m 33 (.t 5), .n (.st none 10 (.t 2) (.t 32)), .m 3 (.t 33)])
 .ret) .skip)))
 (.fg [2, 4, 6] (.seq (.ops false [.u 34 (.ld none 4 true (.t 4)), .u 35 (.ld none 6 true (.t 6)), .u 36 (.build [.x 4 (.t 34), .x 6 (.t 35)]), .n (.st none 10 (.t 2) (.t 36)), .m 3 (.c (.one (.lit .nilIface)))])
 .ret)))))))))))))
def ac_linkworkref17_Inverse (f0 f1 f2 : Nat) : AC := (.seq (.ops false [.u 1 (.box 10 (.t 0)), .u 2 (.alloc [(.lit (.bool false)), .emp, .emp, (.lit (.bool false)), (.lit (.bool false)), .emp, .emp, (.lit (.bool false)), .emp, .emp])])
 (.fg [1, 2] (.seq (.ops false [.u 4 (.fa 0 (.t 1)), .u 5 (.ld none 4 true (.t 4)), .u 6 (.call f0 [(.t 5)]), .u 3 (.alloc [(.lit (.bool false)), .emp, .emp, (.lit (.bool false))]), .n (.st none 4 (.t 3) (.t 6))])
 (.fg [1, 2, 3] (.seq (.ops true [.u 7 (.ld none 4 true (.t 3)), .u 8 (.ld none 4 true (.t 3)), .u 9 (.build [.z [(.lit (.bool false)), .emp, .emp, (.lit (.bool false)), .emp, .emp]]), .u 10 (.fa 4 (.t 1)), .u 11 (.ld none 6 true (.t 10)), .u 12 (.call f1 [(.t 9), (.t 11)]), .u 13 (.call f2 [(.t 8), (.t 12)]), .u 14 (.build [.x 4 (.t 7), .x 6 (.t 13)]), .n (.st none 10 (.t 2) (.t 14))])
 .ret)))))
theorem tcos_sound (hΓ : Holds P Γ) {f fk fd tE : Nat} (hk : Γ fk = .dat false (tcheck_G tE)) (hd : Γ fd = .dat false tdir_G) (hc : check P f = some (19, (ac_turn_Cos fk fd).strip, [.cell 2 3 true, .tmp 3])) : Sound P f (.dat false (tcos_G tE)) := by
 refine sound_dat hc (tcos_good tE) hΓ (fun args K hcl hfi hG => ?_)
 match args, hG with
 | [a], hG =>
  obtain ⟨t, rfl, ht, hl, hK⟩ := hG
  refine ⟨by simp, ?_⟩
  have e2 : errV tE 2 = .one (.lit (.iface tE (.int .i64 2))) := errV_s tE (by decide)
  rcases tchk_02 t with h | h
  ·rw [h, if_pos rfl, errV_0] at hK
   simp only [go_sem, ac_turn_Cos, ac_turn_Sin, hk, hd, tA, tC, ht, mk_eta, h, errV_0]
   exact ⟨by omega, by omega, hK⟩
  ·rw [h, if_neg (by decide), e2, rQ_eq, rcan_zero] at hK
   simp only [go_sem, ac_turn_Cos, ac_turn_Sin, hk, hd, tA, tC, ht, mk_eta, h, e2]
   exact ⟨by omega, hK⟩
theorem tsin_sound (hΓ : Holds P Γ) {f fk fd tE : Nat} (hk : Γ fk = .dat false (tcheck_G tE)) (hd : Γ fd = .dat false tdir_G) (hc : check P f = some (19, (ac_turn_Sin fk fd).strip, [.cell 2 3 true, .tmp 3])) : Sound P f (.dat false (tsin_G tE)) := by
 refine sound_dat hc (tsin_good tE) hΓ (fun args K hcl hfi hG => ?_)
 match args, hG with
 | [a], hG =>
  obtain ⟨t, rfl, ht, hl, hK⟩ := hG
  refine ⟨by simp, ?_⟩
  have e2 : errV tE 2 = .one (.lit (.iface tE (.int .i64 2))) := errV_s tE (by decide)
  rcases tchk_02 t with h | h
  ·rw [h, if_pos rfl, errV_0] at hK
   simp only [go_sem, ac_turn_Cos, ac_turn_Sin, hk, hd, tA, tC, ht, mk_eta, h, errV_0]
   exact ⟨by omega, by omega, hK⟩
  ·rw [h, if_neg (by decide), e2, rQ_eq, rcan_zero] at hK
   simp only [go_sem, ac_turn_Cos, ac_turn_Sin, hk, hd, tA, tC, ht, mk_eta, h, e2]
   exact ⟨by omega, hK⟩
theorem ptneg_sound (hΓ : Holds P Γ) {f fk fn tE : Nat} (hk : Γ fk = .dat false (tcheck_G tE)) (hn : Γ fn = .dat false tneg_G) (hc : check P f = some (13, (ac_turn_Neg fk fn).strip, [.cell 2 4 true, .tmp 3])) : Sound P f (.dat false (ptneg_G tE)) := by
 refine sound_dat hc (ptneg_good tE) hΓ (fun args K hcl hfi hG => ?_)
 match args, hG with
 | [a], hG =>
  obtain ⟨t, rfl, ht, hl, hK⟩ := hG
  refine ⟨by simp, ?_⟩
  have e2 : errV tE 2 = .one (.lit (.iface tE (.int .i64 2))) := errV_s tE (by decide)
  rcases tchk_02 t with h | h
  ·rw [h, if_pos rfl, errV_0] at hK
   simp only [go_sem, ac_turn_Neg, hk, hn, tA, tC, ht, mk_eta, h, errV_0]
   exact ⟨by omega, by omega, hK⟩
  ·rw [h, if_neg (by decide), e2, tQ_eq, rcan_zero] at hK
   simp only [go_sem, ac_turn_Neg, hk, hn, tA, tC, ht, mk_eta, h, e2]
   exact ⟨by omega, hK⟩
theorem pdir_sound (hΓ : Holds P Γ) {f fk fc fs tE : Nat} (hk : Γ fk = .dat false (tcheck_G tE)) (hc' : Γ fc = .dat false (tcos_G tE)) (hs : Γ fs = .dat false (tsin_G tE)) (hc : check P f = some (29, (ac_pose_Direction fk fc fs tE).strip, [.cell 2 3 true, .cell 3 3 true, .tmp 4])) : Sound P f (.dat false (pdir_G tE)) := by
 refine sound_dat hc (pdir_good tE) hΓ (fun args K hcl hfi hG => ?_)
 match args, hG with
 | [a], hG =>
  obtain ⟨t, rfl, ht, hl, hK⟩ := hG
  refine ⟨by simp, ?_⟩
  have e2 : errV tE 2 = .one (.lit (.iface tE (.int .i64 2))) := errV_s tE (by decide)
  rcases tchk_02 t with h | h
  ·rw [h, if_pos rfl, if_pos rfl, errV_0] at hK
   simp only [go_sem, ac_pose_Direction, hk, hc', hs, tA, tC, ht, mk_eta, h, errV_0]
   exact ⟨by omega, by omega, by omega, hK⟩
  ·rw [h, if_neg (by decide), if_neg (by decide), e2, rQ_eq, rcan_zero] at hK
   simp only [go_sem, ac_pose_Direction, hk, hc', hs, tA, tC, ht, mk_eta, h, e2]
   exact ⟨by omega, hK⟩
theorem prot_sound (hΓ : Holds P Γ) {f fd fm fs fa tE : Nat} (hd : Γ fd = .dat false (pdir_G tE)) (hm : Γ fm = .dat false rmul_G) (hs : Γ fs = .dat false rsub_G) (ha : Γ fa = .dat false radd_G) (hc : check P f = some (38, (ac_pose_rotate fd fm fs fa).strip, [.cell 4 6 true, .tmp 5])) : Sound P f (.dat false (prot_G tE)) := by
 refine sound_dat hc (prot_good tE) hΓ (fun args K hcl hfi hG => ?_)
 match args, hG with
 | [a, b], hG =>
  obtain ⟨t, rfl, ht, q, rfl, hq, hl, hl', hK⟩ := hG
  refine ⟨by simp, ?_⟩
  have e2 : errV tE 2 = .one (.lit (.iface tE (.int .i64 2))) := errV_s tE (by decide)
  rcases tchk_02 t with h | h
  ·skip
   have r1 := rz_rv ht
   have q1 := rz_rv hq.1
   have q2 := rz_rv hq.2
   obtain ⟨l1, l2⟩ := al1 hl'
   have cc := rz_cos (tv t)
   have ss := rz_sin (tv t)
   have hrt : rz (tv t).1 = rz (rv t.1) := rfl
   obtain ⟨c, hcc⟩ : ∃ c, cosQ (tv t) = c := ⟨_, rfl⟩
   obtain ⟨s, hss⟩ : ∃ s, sinQ (tv t) = s := ⟨_, rfl⟩
   rw [hcc] at cc
   rw [hss] at ss
   have m1 := rz_mul c (rv q.1)
   have m2 := rz_mul s (rv q.2)
   have m3 := rz_mul s (rv q.1)
   have m4 := rz_mul c (rv q.2)
   have er : rotQ (tv t) (av q) = (c * rv q.1 - s * rv q.2, s * rv q.1 + c * rv q.2) := by unfold rotQ; rw [hcc, hss]; rfl
   rw [h, if_pos rfl, errV_0, er] at hK
   simp only [go_sem, ac_pose_rotate, hd, hm, hs, ha, tA, tC, aC_eq, ht, hq.1, hq.2, mk_eta, h, errV_0, hcc, hss]
   exact ⟨by omega, by omega, by omega, by omega, by omega, by omega, by omega, by omega, by omega, by omega, by omega, by omega, by omega, hK⟩
  ·rw [h, if_neg (by decide), e2, pQ_eq, rcan_zero] at hK
   simp only [go_sem, ac_pose_rotate, hd, hm, hs, ha, tA, tC, aC_eq, ht, mk_eta, h, e2]
   exact ⟨by omega, hK⟩
theorem rrot_sound (hΓ : Holds P Γ) {f fd fm fs fa : Nat} (hd : Γ fd = .dat false tdir_G) (hm : Γ fm = .dat false rmul_G) (hs : Γ fs = .dat false rsub_G) (ha : Γ fa = .dat false radd_G) (hc : check P f = some (31, (ac_linkworkref17_Rotate fd fm fs fa).strip, [.cell 4 6 true])) : Sound P f (.dat false rrot_G) := by
 refine sound_dat hc rrot_good hΓ (fun args K hcl hfi hG => ?_)
 match args, hG with
 | [a, b], hG =>
  obtain ⟨t, rfl, ht, q, rfl, hq, hl, hl', hK⟩ := hG
  refine ⟨by simp, ?_⟩
  have r1 := rz_rv ht
  have q1 := rz_rv hq.1
  have q2 := rz_rv hq.2
  obtain ⟨l1, l2⟩ := al1 hl'
  have cc := rz_cos (tv t)
  have ss := rz_sin (tv t)
  have hrt : rz (tv t).1 = rz (rv t.1) := rfl
  obtain ⟨c, hcc⟩ : ∃ c, cosQ (tv t) = c := ⟨_, rfl⟩
  obtain ⟨s, hss⟩ : ∃ s, sinQ (tv t) = s := ⟨_, rfl⟩
  rw [hcc] at cc
  rw [hss] at ss
  have m1 := rz_mul c (rv q.1)
  have m2 := rz_mul s (rv q.2)
  have m3 := rz_mul s (rv q.1)
  have m4 := rz_mul c (rv q.2)
  have er : rotQ (tv t) (av q) = (c * rv q.1 - s * rv q.2, s * rv q.1 + c * rv q.2) := by unfold rotQ; rw [hcc, hss]; rfl
  rw [er] at hK
  simp only [go_sem, ac_linkworkref17_Rotate, hd, hm, hs, ha, tA, tC, aC_eq, ht, hq.1, hq.2, mk_eta, hcc, hss]
  exact ⟨by omega, by omega, by omega, by omega, by omega, by omega, by omega, by omega, by omega, by omega, by omega, by omega, by omega, hK⟩
theorem rapp_sound (hΓ : Holds P Γ) {f fr fp : Nat} (hr : Γ fr = .dat false rrot_G) (hp' : Γ fp = .dat false pplus_G) (hc : check P f = some (12, (ac_linkworkref17_Apply fr fp).strip, [.cell 4 6 true])) : Sound P f (.dat false rapp_G) := by
 refine sound_dat hc rapp_good hΓ (fun args K hcl hfi hG => ?_)
 match args, hG with
 | [a, b], hG =>
  obtain ⟨p, rfl, hp, q, rfl, hq, hl, hl', hK⟩ := hG
  refine ⟨by simp, ?_⟩
  obtain ⟨l1, l2⟩ := pl1 hl
  have r1 := rz_rv hp.1
  have q1 := av_le hq
  have z := zq_rot (tv p.1) (av q)
  have e1 : rz (tv p.1).1 = rz (rv p.1.1) := rfl
  have e2 : al (rcan (rotQ (tv p.1) (av q)).1, rcan (rotQ (tv p.1) (av q)).2) = zq (rotQ (tv p.1) (av q)) := rfl
  simp only [go_sem, ac_linkworkref17_Apply, hr, hp', poA, pC, aC_eq, hp.1, hp.2, hq, mk_eta, av_mk, rv_rcan]
  exact ⟨by omega, by omega, by rw [e2]; omega, by omega, hK⟩
theorem papp_sound (hΓ : Holds P Γ) {f fv fw fr fp tE : Nat} (hv : Γ fv = .dat true pvld_G) (hw : Γ fw = .dat true pvalid_G) (hr : Γ fr = .dat false (prot_G tE)) (hp' : Γ fp = .dat false pplus_G) (hc : check P f = some (33, (ac_pose_Apply fv fw fr fp tE).strip, [.cell 4 6 true, .tmp 5])) : Sound P f (.dat false (papp_G tE)) := by
 refine sound_dat hc (papp_good tE) hΓ (fun args K hcl hfi hG => ?_)
 match args, hG with
 | [a, b], hG =>
  obtain ⟨p, rfl, hp, q, rfl, hq, hl, hl', hK⟩ := hG
  refine ⟨by simp, ?_⟩
  obtain ⟨l1, l2⟩ := pl1 hl
  have e8 : errV tE 2 = .one (.lit (.iface tE (.int .i64 2))) := errV_s tE (by decide)
  unfold aok at hK
  cases h1 : pvld p with
  | false =>
   rw [h1, Bool.false_and, if_neg (by decide), if_neg (by decide), e8, pQ_eq, rcan_zero] at hK
   simp only [go_sem, ac_pose_Apply, hv, hw, poA, pC, aC_eq, hp, mk_eta, h1]
   exact ⟨by omega, hK⟩
  | true =>
   cases h2 : avld q with
   | false =>
    rw [h1, h2, Bool.true_and, if_neg (by decide), if_neg (by decide), e8, pQ_eq, rcan_zero] at hK
    simp only [go_sem, ac_pose_Apply, hv, hw, poA, pC, aC_eq, hp, hq, mk_eta, h1, h2]
    exact ⟨by omega, by omega, hK⟩
   | true =>
    rw [h1, h2, Bool.true_and, if_pos rfl, if_pos rfl, errV_0] at hK
    have ht : tchk p.1 = 0 := by
     unfold pvld at h1
     rw [Bool.and_eq_true, decide_eq_true_eq] at h1
     exact h1.1
    have r1 := rz_rv hp.1
    have q1 := av_le hq
    have z := zq_rot (tv p.1) (av q)
    have e1 : rz (tv p.1).1 = rz (rv p.1.1) := rfl
    have e2 : al (rcan (rotQ (tv p.1) (av q)).1, rcan (rotQ (tv p.1) (av q)).2) = zq (rotQ (tv p.1) (av q)) := rfl
    simp only [go_sem, ac_pose_Apply, hv, hw, hr, hp', poA, pC, aC_eq, hp, hp.1, hp.2, hq, mk_eta, h1, h2, ht, errV_0, av_mk, rv_rcan]
    exact ⟨by omega, by omega, by omega, by omega, by rw [e2]; omega, by omega, hK⟩
theorem rinv_sound (hΓ : Holds P Γ) {f fb fl fr : Nat} (hb : Γ fb = .dat false tneg_G) (hl' : Γ fl = .dat false pless_G) (hr : Γ fr = .dat false rrot_G) (hc : check P f = some (15, (ac_linkworkref17_Inverse fb fl fr).strip, [.cell 2 10 true])) : Sound P f (.dat false rinv_G) := by
 refine sound_dat hc rinv_good hΓ (fun args K hcl hfi hG => ?_)
 match args, hG with
 | [a], hG =>
  obtain ⟨p, rfl, hp, hl, hK⟩ := hG
  refine ⟨by simp, ?_⟩
  obtain ⟨l1, l2⟩ := pl1 hl
  have e1 : subQ (0, 0) (av p.2) = negQ (av p.2) := by
   unfold subQ negQ; simp only [Prod.mk.injEq]; constructor <;> grind
  have r1 := rz_rv hp.1
  have q1 := av_le hp.2
  have e3 : al (rcan 0, rcan 0) = 0 := by rw [al_can, rz_0]; decide
  have e4 : al (rcan (negQ (av p.2)).1, rcan (negQ (av p.2)).2) = zq (negQ (av p.2)) := rfl
  have e5 := zq_neg (av p.2)
  have e6 : rz (backQ (tv p.1)).1 = rz (rv p.1.1) := rz_neg _
  have e7 : tv (rcan (backQ (tv p.1)).1, (backQ (tv p.1)).2) = backQ (tv p.1) := by unfold tv; simp only [rv_rcan]
  simp only [go_sem, ac_linkworkref17_Inverse, hb, hl', hr, poA, pC, hp.1, hp.2, mk_eta, av_mk, rv_rcan, e1, e3, e7]
  exact ⟨by omega, by omega, by omega, by rw [e4]; omega, hK⟩
theorem pinv_sound (hΓ : Holds P Γ) {f fv ft fn fr tE : Nat} (hv : Γ fv = .dat true pvld_G) (ht' : Γ ft = .dat false (ptneg_G tE)) (hn : Γ fn = .dat false pneg_G) (hr : Γ fr = .dat false (prot_G tE)) (hc : check P f = some (37, (ac_pose_Inverse fv ft fn fr tE).strip, [.cell 2 10 true, .tmp 3])) : Sound P f (.dat false (pinv_G tE)) := by
 refine sound_dat hc (pinv_good tE) hΓ (fun args K hcl hfi hG => ?_)
 match args, hG with
 | [a], hG =>
  obtain ⟨p, rfl, hp, hl, hK⟩ := hG
  refine ⟨by simp, ?_⟩
  obtain ⟨l1, l2⟩ := pl1 hl
  have e8 : errV tE 2 = .one (.lit (.iface tE (.int .i64 2))) := errV_s tE (by decide)
  cases h1 : pvld p with
  | false =>
   rw [h1, if_neg (by decide), if_neg (by decide), e8, psQ_eq, rcan_zero] at hK
   simp only [go_sem, ac_pose_Inverse, hv, poA, pC, hp, mk_eta, h1]
   exact ⟨by omega, hK⟩
  | true =>
   rw [h1, if_pos rfl, if_pos rfl, errV_0] at hK
   have ht : tchk p.1 = 0 := by
    unfold pvld at h1
    rw [Bool.and_eq_true, decide_eq_true_eq] at h1
    exact h1.1
   have ht2 : tchk (rcan (backQ (tv p.1)).1, (backQ (tv p.1)).2) = 0 := tchk_neg ht
   have r1 := rz_rv hp.1
   have q1 := av_le hp.2
   have e4 : al (rcan (negQ (av p.2)).1, rcan (negQ (av p.2)).2) = zq (negQ (av p.2)) := rfl
   have e5 := zq_neg (av p.2)
   have e6 : rz (backQ (tv p.1)).1 = rz (rv p.1.1) := rz_neg _
   have e7 : tv (rcan (backQ (tv p.1)).1, (backQ (tv p.1)).2) = backQ (tv p.1) := by unfold tv; simp only [rv_rcan]
   simp only [go_sem, ac_pose_Inverse, hv, ht', hn, hr, poA, pC, hp, hp.1, hp.2, mk_eta, h1, ht, ht2, errV_0, av_mk, rv_rcan, e7]
   exact ⟨by omega, by omega, by omega, by omega, by rw [e4]; omega, hK⟩
end Go.Abs
end
section
set_option linter.unusedVariables false
set_option linter.unusedSimpArgs false
set_option maxRecDepth 100000
namespace Go.Num
def inA (y : Rat) (x : Arc) : Bool := decide (rv x.1 ≤ y) && decide (y < rv x.2)
def idxOf (y : Rat) (l : List Arc) : Int := match l.findIdx? (inA y) with | some i => i | none => -1
theorem rz_frac (q : Rat) : rz (frac q) ≤ 2 * rz q + 3 := by
 unfold frac
 have h1 := rz_sub q (q.floor : Rat)
 have h2 := rz_int q.floor
 have h3 : zs q.floor ≤ rz q := by
  rw [Rat.floor_def]
  exact Nat.le_trans (zs_mono (Int.natAbs_ediv_le_natAbs _ _)) (rz_num q)
 omega
end Go.Num
namespace Go.Abs
open Go.Num
variable {P : Program} {Γ : Nat → Spec}
def pA (y : R) : AV := .one (.ref [cb y, cn y, cd y])
def kA (f : Nat) (y : R) : AV := .one (.clo f [.ref [cb y, cn y, cd y]])
theorem pA_inj (x y : R) (h : pA x = pA y) : x = y := rA_inj x y (by simpa [pA, rA] using h)
theorem kA_inj (f : Nat) (x y : R) (h : kA f x = kA f y) : x = y := rA_inj x y (by simpa [kA, rA] using h)
def onP (k : R → Prop) (a : AV) : Prop := onE pA (fun x => WLR x ∧ k x) a
@[congr] theorem onP_cg {k : R → Prop} {a a' : AV} (h : a = a') : onP k a = onP k a' := by subst h; rfl
theorem onP_e (k : R → Prop) (x : R) : onP k (.one (.ref [cb x, cn x, cd x])) = (WLR x ∧ k x) := onE_e pA_inj (fun x => WLR x ∧ k x) x
theorem g_onP {β : Type} {T : R → (β → Prop) → Prop} (h : ∀ x, GoodT (T x)) {a : AV} : GoodT fun K => onP (fun x => T x K) a :=
 g_onE (e := pA) (T := fun x K => WLR x ∧ T x K) pA_inj fun x => GoodT.and (c := WLR x) (T := T x) fun _ => h x
def onKl (f : Nat) (k : R → Prop) (a : AV) : Prop := onE (kA f) (fun x => WLR x ∧ k x) a
@[congr] theorem onKl_cg {f : Nat} {k : R → Prop} {a a' : AV} (h : a = a') : onKl f k a = onKl f k a' := by subst h; rfl
theorem onKl_e (f : Nat) (k : R → Prop) (x : R) : onKl f k (.one (.clo f [.ref [cb x, cn x, cd x]])) = (WLR x ∧ k x) := onE_e (kA_inj f) (fun x => WLR x ∧ k x) x
theorem g_onKl {β : Type} {f : Nat} {T : R → (β → Prop) → Prop} (h : ∀ x, GoodT (T x)) {a : AV} : GoodT fun K => onKl f (fun x => T x K) a :=
 g_onE (e := kA f) (T := fun x K => WLR x ∧ T x K) (kA_inj f) fun x => GoodT.and (c := WLR x) (T := T x) fun _ => h x
attribute [go_sem] onP_e onKl_e
attribute [go_sem ↓] onP_e onKl_e
theorem datB_ref3 (h : Nat → HB) (y : R) : datB h (.ref [cb y, cn y, cd y]) = .ref [cb y, cn y, cd y] := eq_of_heq (HEq.refl _)
theorem clean_ref3 (y : R) : CleanL [cb y, cn y, cd y] := by
 intro c hc
 simp only [List.mem_cons, List.not_mem_nil, or_false] at hc
 rcases hc with rfl | rfl | rfl
 ·exact of_eq_true (clean_cb _)
 ·exact of_eq_true (clean_cn _)
 ·exact of_eq_true (clean_cd _)
theorem clean_refL (y : R) : CleanL [C.ref [cb y, cn y, cd y]] := by
 intro c hc
 rw [List.mem_singleton] at hc; subst hc
 exact .ref _ (clean_ref3 y)
def chas1_G (l : List AV) (K : AV → Prop) : Prop :=
 match l with
 | [a, b] => onA (fun x => onP (fun y => al x ≤ 4294967296 ∧ rl y ≤ 4294967296 ∧ K (.one (.lit (.bool (inA (rv y) x))))) b) a
 | _ => False
theorem chas1_Ge (a b : AV) (K : AV → Prop) : chas1_G [a, b] K = (onA (fun x => onP (fun y => al x ≤ 4294967296 ∧ rl y ≤ 4294967296 ∧ K (.one (.lit (.bool (inA (rv y) x))))) b) a) := propext Iff.rfl
@[congr] theorem chas1_Gc {K : AV → Prop} {l l' : List AV} (h : l = l') : chas1_G l K = chas1_G l' K := by subst h; rfl
attribute [go_sem] chas1_Ge
attribute [go_sem ↓] chas1_Ge
theorem chas1_good : Good chas1_G := good_of fun as => by
 unfold chas1_G
 split
 ·exact (g_onA fun _ => (g_onP fun _ => (.and fun _ => (.and fun _ => (.ret _)))))
 ·exact .of fun K hk => hk.elim
def cidx_G (fc : Nat) (l : List AV) (K : AV → Prop) : Prop :=
 match l with
 | [a, c] => onAs (fun l => onKl fc (fun y => okAs 4294967296 l ∧ rl y ≤ 4294967296 ∧ K (.one (.lit (.int .i64 (idxOf (rv y) l))))) c) a
 | _ => False
theorem cidx_Ge (fc : Nat) (a c : AV) (K : AV → Prop) : cidx_G fc [a, c] K = (onAs (fun l => onKl fc (fun y => okAs 4294967296 l ∧ rl y ≤ 4294967296 ∧ K (.one (.lit (.int .i64 (idxOf (rv y) l))))) c) a) := propext Iff.rfl
@[congr] theorem cidx_Gc (fc : Nat) {K : AV → Prop} {l l' : List AV} (h : l = l') : cidx_G fc l K = cidx_G fc l' K := by subst h; rfl
attribute [go_sem] cidx_Ge
attribute [go_sem ↓] cidx_Ge
theorem cidx_good (fc : Nat) : Good (cidx_G fc) := good_of fun as => by
 unfold cidx_G
 split
 ·exact (g_onAs fun _ => (g_onKl fun _ => (.and fun _ => (.and fun _ => (.ret _)))))
 ·exact .of fun K hk => hk.elim
def ccont_G (fc : Nat) (l : List AV) (K : AV → Prop) : Prop :=
 match l with
 | [a, c] => onAs (fun l => onKl fc (fun y => okAs 4294967296 l ∧ rl y ≤ 4294967296 ∧ K (.one (.lit (.bool (l.any (inA (rv y))))))) c) a
 | _ => False
theorem ccont_Ge (fc : Nat) (a c : AV) (K : AV → Prop) : ccont_G fc [a, c] K = (onAs (fun l => onKl fc (fun y => okAs 4294967296 l ∧ rl y ≤ 4294967296 ∧ K (.one (.lit (.bool (l.any (inA (rv y))))))) c) a) := propext Iff.rfl
@[congr] theorem ccont_Gc (fc : Nat) {K : AV → Prop} {l l' : List AV} (h : l = l') : ccont_G fc l K = ccont_G fc l' K := by subst h; rfl
attribute [go_sem] ccont_Ge
attribute [go_sem ↓] ccont_Ge
theorem ccont_good (fc : Nat) : Good (ccont_G fc) := good_of fun as => by
 unfold ccont_G
 split
 ·exact (g_onAs fun _ => (g_onKl fun _ => (.and fun _ => (.and fun _ => (.ret _)))))
 ·exact .of fun K hk => hk.elim
def cHas_G (tE : Nat) (l : List AV) (K : AV → Prop) : Prop :=
 match l with
 | [a, b] => onAs (fun l => onR (fun y => okAs 4294967296 l ∧ rl y ≤ 1000000000 ∧ K (.tup [.one (.lit (.bool (decide (chk [l] = 0) && (vldR y && l.any (inA (frac (rv y))))))), errV tE (if chk [l] = 0 then (if vldR y then 0 else 3) else chk [l])])) b) a
 | _ => False
theorem cHas_Ge (tE : Nat) (a b : AV) (K : AV → Prop) : cHas_G tE [a, b] K = (onAs (fun l => onR (fun y => okAs 4294967296 l ∧ rl y ≤ 1000000000 ∧ K (.tup [.one (.lit (.bool (decide (chk [l] = 0) && (vldR y && l.any (inA (frac (rv y))))))), errV tE (if chk [l] = 0 then (if vldR y then 0 else 3) else chk [l])])) b) a) := propext Iff.rfl
@[congr] theorem cHas_Gc (tE : Nat) {K : AV → Prop} {l l' : List AV} (h : l = l') : cHas_G tE l K = cHas_G tE l' K := by subst h; rfl
attribute [go_sem] cHas_Ge
attribute [go_sem ↓] cHas_Ge
theorem cHas_good (tE : Nat) : Good (cHas_G tE) := good_of fun as => by
 unfold cHas_G
 split
 ·exact (g_onAs fun _ => (g_onR fun _ => (.and fun _ => (.and fun _ => (.ret _)))))
 ·exact .of fun K hk => hk.elim
def ac_chart_Has (f0 f1 f2 f3 f4 tE : Nat) : AC := (.seq (.ops false [.u 3 (.box 3 (.t 1)), .m 4 .fa, .m 5 (.c (.one (.lit .nilIface)))])
 (.fg [0, 3] (.seq (.seq (.ops false [.m 8 (.t 0), .u 9 (.row 1 [[.x 1 (.t 8)]]), .u 10 (.call f0 [(.t 9)]), .m 6 (.t 10)])
 (.fg [0, 3, 6] (.seq (.ops false [.m 11 (.t 6), .u 12 (.binn .neq (.t 11) (.c (.one (.lit .nilIface))))])
 (.fg [0, 3, 6, 12] (.cond (.t 12) (.seq (.ops false [.m 13 (.t 6), .m 4 .fa, .m 5 (.t 13)])
 .ret) .skip)))))
 (.fg [0, 3] (.seq (.seq (.ops false [.u 14 (.ld none 3 true (.t 3)), .u 15 (.call f1 [(.t 14)]), .u 16 (.un .not (.t 15))])
 (.fg [0, 3, 16] (.cond (.t 16) (.seq (.ops false [.u 17 (.iface tE (.i 3)), .m 4 .fa, .m 5 (.t 17)])
 .ret) .skip)))
 (.fg [0, 3] (.seq (.ops false [.u 19 (.ld none 3 true (.t 3)), .u 20 (.call f2 [(.t 19)]), .m 18 (.t 20), .u 21 (.ext 0 (.t 18)), .u 22 (.ext 1 (.t 18)), .n (.st none 3 (.t 3) (.t 21)), .m 7 (.t 22)])
 (.fg [0, 3, 7] (.seq (.seq (.ops false [.m 23 (.t 7), .u 24 (.binn .neq (.t 23) (.c (.one (.lit .nilIface))))])
 (.fg [0, 3, 7, 24] (.cond (.t 24) (.seq (.ops false [.m 25 (.t 7), .m 4 .fa, .m 5 (.t 25)])
 .ret) .skip)))
 (.fg [0, 3] (.seq (.ops false [.m 26 (.t 0), .u 27 (.clo f4 [(.t 3)]), .u 28 (.call f3 [(.t 26), (.t 27)]), .m 4 (.t 28), .m 5 (.c (.one (.lit .nilIface)))])
 .ret)))))))))))
def ac_chart_Has_1 (f0 : Nat) : AC := (.seq (.ops false [.u 2 (.box 6 (.t 0)), .m 3 .fa])
 (.fg [1, 2] (.seq (.ops false [.u 4 (.fa 0 (.t 2)), .u 5 (.ld none 3 true (.t 4)), .u 6 (.ld none 3 true (.t 1)), .u 7 (.call f0 [(.t 5), (.t 6)]), .u 8 (.bin .leq (.t 7) (.i 0)), .m 9 (.t 8), .w 10 9 true (.ld none 3 true (.t 1)), .w 11 9 true (.fa 3 (.t 2)), .w 12 9 true (.ld none 3 true (.t 11)), .w 13 9 true (.call f0 [(.t 10), (.t 12)]), .w 14 9 true (.bin .lss (.t 13) (.i 0)), .u 15 (.pick (.t 9) (.t 14) .fa), .m 3 (.t 15)])
 .ret)))
def ac_slices_ContainsFunc_g (f0 : Nat) : AC := (.seq (.ops false [.m 4 .fa])
 (.fg [0, 1] (.seq (.ops false [.m 5 (.t 0), .m 6 (.t 1), .u 7 (.call f0 [(.t 5), (.t 6)]), .u 8 (.bin .geq (.t 7) (.i 0)), .m 4 (.t 8)])
 .ret)))
def ac_slices_IndexFunc_g : AC := (.seq (.ops false [.m 4 (.i 0)])
 (.fg [0, 1] (.seq (.seq (.ops false [.m 6 (.t 0), .u 7 (.len (.t 6)), .m 8 (.i 0)])
 (.fg [0, 1, 7, 8] (.block 0 (.loop (.seq (.ops false [.u 9 (.bin .lss (.t 8) (.t 7))])
 (.fg [0, 1, 7, 8, 9] (.seq (.cond (.t 9) .skip (.exit 0))
 (.fg [0, 1, 7, 8] (.seq (.block 1 (.seq (.ops false [.m 10 (.t 8), .m 5 (.t 10)])
 (.fg [0, 1, 5, 7, 8] (.seq (.ops false [.m 11 (.t 1), .m 12 (.t 0), .m 13 (.t 5), .u 14 (.idx 6 (.t 12) (.t 13)), .u 15 (.ld none 6 true (.t 14)), .u 16 (.callv (.t 11) [(.t 15)])])
 (.fg [0, 1, 5, 7, 8, 16] (.cond (.t 16) (.seq (.ops false [.m 17 (.t 5), .m 4 (.t 17)])
 .ret) .skip))))))
 (.fg [0, 1, 7, 8] (.ops false [.u 18 (.bin .add (.t 8) (.i 1)), .m 8 (.t 18)])))))))))))
 (.fg [] (.seq (.ops false [.m 4 (.i (-1))])
 .ret)))))
theorem chas1_sound (hΓ : Holds P Γ) {f fc : Nat} (hc' : Γ fc = .dat true rcmp_G) (hc : check P f = some (16, (ac_chart_Has_1 fc).strip, [.tmp 3])) : Sound P f (.dat true chas1_G) := by
 refine sound_dat hc chas1_good hΓ (fun args K hcl hfi hG => ?_)
 match args, hG with
 | [a, b], hG =>
  obtain ⟨x, rfl, hx, y, rfl, hy, hl, hl', hK⟩ := hG
  refine ⟨by simp, ?_⟩
  have hx1 : rl x.1 ≤ 4294967296 := Nat.le_trans (Nat.le_max_left _ _) hl
  have hx2 : rl x.2 ≤ 4294967296 := Nat.le_trans (Nat.le_max_right _ _) hl
  simp only [go_sem, ac_chart_Has_1, hc', aC_eq, hx.1, hx.2, hy, hx1, hx2, hl', pA]
  unfold inA at hK
  refine ⟨fun h => ?_, fun h => ?_⟩
  ·rw [decide_eq_true (ordQ_le.1 h), Bool.true_and] at hK
   have e : decide (ordQ (rv y) (rv x.2) < 0) = decide (rv y < rv x.2) := by rw [decide_eq_decide, ordQ_lt]
   rw [e]; exact hK
  ·rw [decide_eq_false (fun h' => h (ordQ_le.2 h')), Bool.false_and] at hK
   exact hK
theorem cidx_sound (hΓ : Holds P Γ) {f fc : Nat} (hc' : Γ fc = .dat true chas1_G) (hc : check P f = some (19, ac_slices_IndexFunc_g.strip, [.tmp 4])) : Sound P f (.dat true (cidx_G fc)) := by
 refine sound_dat hc (cidx_good fc) hΓ (fun args K hcl hfi hG => ?_)
 match args, hG with
 | [a, c], hG =>
  obtain ⟨l, rfl, hl, y, rfl, hy, hok, hyl, hK⟩ := hG
  refine ⟨by simp, ?_⟩
  simp only [go_sem, ac_slices_IndexFunc_g, hc', kA]
  intro _
  refine wpA_loop (fun k : Nat => ⟨mkV [(0, asA l), (1, kA fc y), (7, .one (.lit (.int .i64 l.length))), (8, .one (.lit (.int .i64 k)))], mkH []⟩) (fun k => k ≤ l.length ∧ (l.take k).findIdx? (inA (rv y)) = none) (fun k => l.length - k) 0 ?_ ?_ ?_
  ·exact weak_lit (by simp [okS, okV, okC, okL, okH, okB, okE, mkV_cons, mkV_nil, mkH_cons, mkH_nil, wsA, ws, kA, asA, as, clean_refL]) trivial
  ·simp
  ·rintro k ⟨hk, hf⟩
   by_cases hlt : k < l.length
   ·obtain ⟨x, hx⟩ : ∃ x, l.getD k a0 = x := ⟨_, rfl⟩
    have hx0 : l[k]? = some x := by
     rw [← hx, List.getD_eq_getElem?_getD, List.getElem?_eq_getElem hlt]; rfl
    have hxm : x ∈ l := List.mem_of_getElem? hx0
    have hox := hok x hxm
    simp only [go_sem, hc', kA, hlt, hx, hox.1, hox.2, hy, hyl, datB_ref3]
    have hf1 : l.take (k + 1) = l.take k ++ [x] := by rw [List.take_add_one, hx0]; rfl
    refine ⟨fun h => ?_, fun h => ⟨by omega, k + 1, weak_lit (by simp [okS, okV, okC, okL, okH, okB, okE, mkV_cons, mkV_nil, mkH_cons, mkH_nil, wsA, ws, clean_refL]) trivial, ⟨by omega, ?_⟩, by omega⟩⟩
    ·have e : l.findIdx? (inA (rv y)) = some k := by
      rw [List.findIdx?_eq_some_iff_getElem]
      refine ⟨hlt, by rw [List.getElem?_eq_getElem hlt] at hx0; simp at hx0; rw [hx0]; exact h, fun j hj => ?_⟩
      rw [List.findIdx?_eq_none_iff] at hf
      have := hf l[j] (by rw [List.mem_take_iff_getElem]; exact ⟨j, by omega, rfl⟩)
      simpa using this
     unfold idxOf at hK
     rw [e] at hK
     exact hK
    ·rw [hf1, List.findIdx?_append, hf]
     simp [h]
   ·have e : l.take k = l := List.take_of_length_le (by omega)
    simp only [go_sem, hc', kA, hlt]
    rw [e] at hf
    unfold idxOf at hK
    rw [hf] at hK
    exact hK
theorem ccont_sound (hΓ : Holds P Γ) {f fi fc : Nat} (hi : Γ fi = .dat true (cidx_G fc)) (hc : check P f = some (9, (ac_slices_ContainsFunc_g fi).strip, [.tmp 4])) : Sound P f (.dat true (ccont_G fc)) := by
 refine sound_dat hc (ccont_good fc) hΓ (fun args K hcl hfi hG => ?_)
 match args, hG with
 | [a, c], hG =>
  obtain ⟨l, rfl, hl, y, rfl, hy, hok, hyl, hK⟩ := hG
  refine ⟨by simp, ?_⟩
  simp only [go_sem, ac_slices_ContainsFunc_g, hi, kA]
  rw [datB_ref3, onKl_e]
  refine ⟨hl, hy, hok, hyl, ?_⟩
  have e : decide (0 ≤ idxOf (rv y) l) = l.any (inA (rv y)) := by
   unfold idxOf
   cases h : l.findIdx? (inA (rv y)) with
   | none =>
    rw [List.findIdx?_eq_none_iff] at h
    have : l.any (inA (rv y)) = false := by rw [List.any_eq_false]; exact fun x hx => by rw [h x hx]; simp
    rw [this]; rfl
   | some i =>
    have := List.findIdx?_isSome (xs := l) (p := inA (rv y))
    rw [h] at this
    rw [← this]
    simp
  rw [e]; exact hK
theorem cHas_sound (hΓ : Holds P Γ) {f fk fv fw fc f1 tE : Nat} (hk : Γ fk = .dat false (ccheck_G tE)) (hv : Γ fv = .dat true rvalid_G) (hw : Γ fw = .dat false cwrap_G) (hc' : Γ fc = .dat true (ccont_G f1)) (hc : check P f = some (29, (ac_chart_Has fk fv fw fc f1 tE).strip, [.tmp 4, .tmp 5])) : Sound P f (.dat false (cHas_G tE)) := by
 refine sound_dat hc (cHas_good tE) hΓ (fun args K hcl hfi hG => ?_)
 match args, hG with
 | [a, b], hG =>
  obtain ⟨l, rfl, hl, y, rfl, hy, hok, hyl, hK⟩ := hG
  refine ⟨by simp, ?_⟩
  by_cases h0 : chk [l] = 0
  ·simp only [go_sem, ac_chart_Has, hk, hv, hw, hc', h0, errV_0, hy] at hK ⊢
   refine ⟨hl, fun x hx => by rw [List.mem_singleton] at hx; subst hx; exact hok, by omega, fun h => ?_, fun h => ?_⟩
   ·rw [h] at hK
    simp only [Bool.true_and, if_true, errV_0] at hK
    have e : datQ 0 0 (some ⟨[[cb (rcan (frac (rv y))), cn (rcan (frac (rv y))), cd (rcan (frac (rv y)))]], 3, true⟩) = .ref [cb (rcan (frac (rv y))), cn (rcan (frac (rv y))), cd (rcan (frac (rv y)))] := by
     simp [datQ, clean_ref3]
    rw [e, onKl_e]
    have hfl := rz_frac (rv y)
    have hry := rz_rv hy
    refine ⟨by omega, hl, WLR_rcan _, hok, ?_, ?_⟩
    ·rw [rl_can]; omega
    ·rw [rv_rcan]; exact hK
   ·rw [h] at hK
    simp only [Bool.true_and, Bool.false_and, Bool.false_eq_true, if_false, errV_s tE (show 3 ≠ 0 by decide)] at hK
    exact hK
  ·simp only [go_sem, ac_chart_Has, hk, hv, hw, hc', h0, errV_s tE h0, hy] at hK ⊢
   exact ⟨hl, fun x hx => by rw [List.mem_singleton] at hx; subst hx; exact hok, by simpa using hK⟩
end Go.Abs
end
section
set_option linter.unusedVariables false
set_option linter.unusedSimpArgs false
set_option maxRecDepth 100000
namespace Go.Num
def longR (x : R) : Bool := decide (4 < x.2.1.length + x.2.2.length)
def largeL (l : List Arc) : Bool := if 20 < l.length then (decide (l.length ≤ 64) || decide (200 < l.length)) else l.any fun x => longR x.1 || longR x.2
def validL (l : List Arc) : Bool := !largeL l && decide (chk1 l = 0)
end Go.Num
namespace Go.Abs
open Go.Num
variable {P : Program} {Γ : Nat → Spec}
def rcheck_G (l : List AV) (K : AV → Prop) : Prop :=
 match l with
 | [a] => onAs (fun l => okAs 1073741824 l ∧ K (.one (.lit (.int .i64 (chk1 l : Nat))))) a
 | _ => False
theorem rcheck_Ge (a : AV) (K : AV → Prop) : rcheck_G [a] K = (onAs (fun l => okAs 1073741824 l ∧ K (.one (.lit (.int .i64 (chk1 l : Nat))))) a) := propext Iff.rfl
@[congr] theorem rcheck_Gc {K : AV → Prop} {l l' : List AV} (h : l = l') : rcheck_G l K = rcheck_G l' K := by subst h; rfl
attribute [go_sem] rcheck_Ge
attribute [go_sem ↓] rcheck_Ge
theorem rcheck_good : Good rcheck_G := good_of fun as => by
 unfold rcheck_G
 split
 ·exact (g_onAs fun _ => (.and fun _ => (.ret _)))
 ·exact .of fun K hk => hk.elim
def rsame_G (l : List AV) (K : AV → Prop) : Prop :=
 match l with
 | [a, b] => onAs (fun l => onAs (fun m => okAs 1073741824 l ∧ okAs 1073741824 m ∧ K (.one (.lit (.bool (decide (vals l = vals m)))))) b) a
 | _ => False
theorem rsame_Ge (a b : AV) (K : AV → Prop) : rsame_G [a, b] K = (onAs (fun l => onAs (fun m => okAs 1073741824 l ∧ okAs 1073741824 m ∧ K (.one (.lit (.bool (decide (vals l = vals m)))))) b) a) := propext Iff.rfl
@[congr] theorem rsame_Gc {K : AV → Prop} {l l' : List AV} (h : l = l') : rsame_G l K = rsame_G l' K := by subst h; rfl
attribute [go_sem] rsame_Ge
attribute [go_sem ↓] rsame_Ge
theorem rsame_good : Good rsame_G := good_of fun as => by
 unfold rsame_G
 split
 ·exact (g_onAs fun _ => (g_onAs fun _ => (.and fun _ => (.and fun _ => (.ret _)))))
 ·exact .of fun K hk => hk.elim
def rfrac_G (l : List AV) (K : AV → Prop) : Prop :=
 match l with
 | [a] => onR (fun x => rl x ≤ 1000000000 ∧ K (.agg [cb (rcan (frac (rv x))), cn (rcan (frac (rv x))), cd (rcan (frac (rv x)))])) a
 | _ => False
theorem rfrac_Ge (a : AV) (K : AV → Prop) : rfrac_G [a] K = (onR (fun x => rl x ≤ 1000000000 ∧ K (.agg [cb (rcan (frac (rv x))), cn (rcan (frac (rv x))), cd (rcan (frac (rv x)))])) a) := propext Iff.rfl
@[congr] theorem rfrac_Gc {K : AV → Prop} {l l' : List AV} (h : l = l') : rfrac_G l K = rfrac_G l' K := by subst h; rfl
attribute [go_sem] rfrac_Ge
attribute [go_sem ↓] rfrac_Ge
theorem rfrac_good : Good rfrac_G := good_of fun as => by
 unfold rfrac_G
 split
 ·exact (g_onR fun _ => (.and fun _ => (.ret _)))
 ·exact .of fun K hk => hk.elim
def rpart_G (l : List AV) (K : AV → Prop) : Prop :=
 match l with
 | [a, b] => asInt (fun k n => asInt (fun k' d => k = .i64 ∧ k' = .i64 ∧ (-9223372036854775808 ≤ n ∧ n ≤ 9223372036854775807) ∧ (-9223372036854775808 ≤ d ∧ d ≤ 9223372036854775807) ∧ d ≠ 0 ∧ K (.agg [cb (rcan (Rat.divInt n d)), cn (rcan (Rat.divInt n d)), cd (rcan (Rat.divInt n d))])) b) a
 | _ => False
theorem rpart_Ge (a b : AV) (K : AV → Prop) : rpart_G [a, b] K = (asInt (fun k n => asInt (fun k' d => k = .i64 ∧ k' = .i64 ∧ (-9223372036854775808 ≤ n ∧ n ≤ 9223372036854775807) ∧ (-9223372036854775808 ≤ d ∧ d ≤ 9223372036854775807) ∧ d ≠ 0 ∧ K (.agg [cb (rcan (Rat.divInt n d)), cn (rcan (Rat.divInt n d)), cd (rcan (Rat.divInt n d))])) b) a) := propext Iff.rfl
@[congr] theorem rpart_Gc {K : AV → Prop} {l l' : List AV} (h : l = l') : rpart_G l K = rpart_G l' K := by subst h; rfl
attribute [go_sem] rpart_Ge
attribute [go_sem ↓] rpart_Ge
theorem rpart_good : Good rpart_G := good_of fun as => by
 unfold rpart_G
 split
 ·repeat (first | exact .ret _ | exact .of (fun K hk => hk.elim) | (refine .and fun _ => ?_) | (refine g_onWs fun _ => ?_) | (refine g_onR fun _ => ?_) | (refine g_onR fun _ => ?_) | (refine g_onAs fun _ => ?_) | (refine g_onA fun _ => ?_) | (refine g_asInt (fun _ _ => ?_) _) | (refine g_asBool (fun _ => ?_) _) | (refine g_onE ?_ ?_) | (intro _) | assumption)
 ·exact .of fun K hk => hk.elim
def rlong_G (l : List AV) (K : AV → Prop) : Prop :=
 match l with
 | [a] => onR (fun x => rl x ≤ 4294967296 ∧ K (.one (.lit (.bool (longR x))))) a
 | _ => False
theorem rlong_Ge (a : AV) (K : AV → Prop) : rlong_G [a] K = (onR (fun x => rl x ≤ 4294967296 ∧ K (.one (.lit (.bool (longR x))))) a) := propext Iff.rfl
@[congr] theorem rlong_Gc {K : AV → Prop} {l l' : List AV} (h : l = l') : rlong_G l K = rlong_G l' K := by subst h; rfl
attribute [go_sem] rlong_Ge
attribute [go_sem ↓] rlong_Ge
theorem rlong_good : Good rlong_G := good_of fun as => by
 unfold rlong_G
 split
 ·exact (g_onR fun _ => (.and fun _ => (.ret _)))
 ·exact .of fun K hk => hk.elim
def rlarge_G (l : List AV) (K : AV → Prop) : Prop :=
 match l with
 | [a] => onAs (fun l => okAs 1073741824 l ∧ K (.one (.lit (.bool (largeL l))))) a
 | _ => False
theorem rlarge_Ge (a : AV) (K : AV → Prop) : rlarge_G [a] K = (onAs (fun l => okAs 1073741824 l ∧ K (.one (.lit (.bool (largeL l))))) a) := propext Iff.rfl
@[congr] theorem rlarge_Gc {K : AV → Prop} {l l' : List AV} (h : l = l') : rlarge_G l K = rlarge_G l' K := by subst h; rfl
attribute [go_sem] rlarge_Ge
attribute [go_sem ↓] rlarge_Ge
theorem rlarge_good : Good rlarge_G := good_of fun as => by
 unfold rlarge_G
 split
 ·exact (g_onAs fun _ => (.and fun _ => (.ret _)))
 ·exact .of fun K hk => hk.elim
def rvalidL_G (l : List AV) (K : AV → Prop) : Prop :=
 match l with
 | [a] => onAs (fun l => okAs 1073741824 l ∧ K (.one (.lit (.bool (validL l))))) a
 | _ => False
theorem rvalidL_Ge (a : AV) (K : AV → Prop) : rvalidL_G [a] K = (onAs (fun l => okAs 1073741824 l ∧ K (.one (.lit (.bool (validL l))))) a) := propext Iff.rfl
@[congr] theorem rvalidL_Gc {K : AV → Prop} {l l' : List AV} (h : l = l') : rvalidL_G l K = rvalidL_G l' K := by subst h; rfl
attribute [go_sem] rvalidL_Ge
attribute [go_sem ↓] rvalidL_Ge
theorem rvalidL_good : Good rvalidL_G := good_of fun as => by
 unfold rvalidL_G
 split
 ·exact (g_onAs fun _ => (.and fun _ => (.ret _)))
 ·exact .of fun K hk => hk.elim
def climit_G (tE : Nat) (l : List AV) (K : AV → Prop) : Prop :=
 match l with
 | [a] => onAs (fun l => K (.tup [.one (.slice ((if 64 < l.length then [] else l).map aC)), errV tE (if 64 < l.length then 4 else 0)])) a
 | _ => False
theorem climit_Ge (tE : Nat) (a : AV) (K : AV → Prop) : climit_G tE [a] K = (onAs (fun l => K (.tup [.one (.slice ((if 64 < l.length then [] else l).map aC)), errV tE (if 64 < l.length then 4 else 0)])) a) := propext Iff.rfl
@[congr] theorem climit_Gc (tE : Nat) {K : AV → Prop} {l l' : List AV} (h : l = l') : climit_G tE l K = climit_G tE l' K := by subst h; rfl
attribute [go_sem] climit_Ge
attribute [go_sem ↓] climit_Ge
theorem climit_good (tE : Nat) : Good (climit_G tE) := good_of fun as => by
 unfold climit_G
 split
 ·exact (g_onAs fun _ => (.ret _))
 ·exact .of fun K hk => hk.elim
def ac_linkworkref54_Check (f0 f1 f2 f3 : Nat) : AC := (.seq (.ops false [.m 2 (.i 0)])
 (.fg [0] (.seq (.seq (.ops false [.m 5 (.t 0), .u 6 (.len (.t 5)), .u 7 (.bin .gtr (.t 6) (.i 64))])
 (.fg [0, 7] (.cond (.t 7) (.seq (.ops false [.m 2 (.i 4)])
 .ret) .skip)))
 (.fg [0] (.seq (.seq (.ops false [.m 3 (.i 0)])
 (.fg [0, 3] (.block 0 (.loop (.seq (.seq (.ops false [.m 8 (.t 3), .m 9 (.t 0), .u 10 (.len (.t 9)), .u 11 (.bin .lss (.t 8) (.t 10))])
 (.fg [0, 3, 11] (.cond (.t 11) .skip (.exit 0))))
 (.fg [0, 3] (.seq (.block 1 (.seq (.ops false [.m 14 (.t 0), .m 15 (.t 3), .u 16 (.idx 6 (.t 14) (.t 15)), .u 17 (.ld none 6 true (.t 16)), .u 4 (.alloc [(.lit (.bool false)), .emp, .emp, (.lit (.bool false)), .emp, .emp]), .n (.st none 6 (.t 4) (.t 17))])
 (.fg [0, 3, 4] (.seq (.ops true [.u 18 (.fa 0 (.t 4)), .u 19 (.ld none 3 true (.t 18)), .u 20 (.call f0 [(.t 19)]), .u 21 (.un .not (.t 20)), .m 22 (.t 21), .w 23 22 false (.fa 3 (.t 4)), .w 24 22 false (.ld none 3 true (.t 23)), .w 25 22 false (.call f0 [(.t 24)]), .w 26 22 false (.un .not (.t 25)), .u 27 (.pick (.t 22) .tr (.t 26)), .m 28 (.t 27), .w 29 28 false (.fa 0 (.t 4)), .w 30 28 false (.ld none 3 true (.t 29)), .w 31 28 false (.call f1 [(.t 30)]), .w 32 28 false (.bin .lss (.t 31) (.i 0)), .u 33 (.pick (.t 28) .tr (.t 32)), .m 34 (.t 33), .w 35 34 false (.fa 3 (.t 4)), .w 36 34 false (.ld none 3 true (.t 35)), .w 37 34 false (.call f2 []), .w 38 34 false (.call f3 [(.t 36), (.t 37)]), .w 39 34 false (.bin .gtr (.t 38) (.i 0)), .u 40 (.pick (.t 34) .tr (.t 39)), .m 41 (.t 40), .w 42 41 false (.fa 0 (.t 4)), .w 43 41 false (.ld none 3 true (.t 42)), .w 44 41 false (.fa 3 (.t 4)), .w 45 41 false (.ld none 3 true (.t 44)), .w 46 41 false (.call f3 [(.t 43), (.t 45)]), .w 47 41 false (.bin .geq (.t 46) (.i 0)), .u 48 (.pick (.t 41) .tr (.t 47))])
 (.fg [0, 3, 48] (.cond (.t 48) (.seq (.ops false [.m 2 (.i 3)])
 .ret) .skip))))))
 (.fg [0, 3] (.ops false [.m 12 (.t 3), .u 13 (.bin .add (.t 12) (.i 1)), .m 3 (.t 13)])))))))))
 (.fg [] (.seq (.ops false [.m 2 (.i 0)])
 .ret)))))))
def ac_linkworkref54_Same (f0 : Nat) : AC := (.seq (.ops false [.m 4 .fa])
 (.fg [0, 1] (.seq (.seq (.ops false [.m 6 (.t 0), .u 7 (.len (.t 6)), .m 8 (.t 1), .u 9 (.len (.t 8)), .u 10 (.bin .neq (.t 7) (.t 9))])
 (.fg [0, 1, 10] (.cond (.t 10) (.seq (.ops false [.m 4 .fa])
 .ret) .skip)))
 (.fg [0, 1] (.seq (.seq (.ops false [.m 5 (.i 0)])
 (.fg [0, 1, 5] (.block 0 (.loop (.seq (.seq (.ops false [.m 11 (.t 5), .m 12 (.t 0), .u 13 (.len (.t 12)), .u 14 (.bin .lss (.t 11) (.t 13))])
 (.fg [0, 1, 5, 14] (.cond (.t 14) .skip (.exit 0))))
 (.fg [0, 1, 5] (.seq (.block 1 (.seq (.ops true [.m 17 (.t 0), .m 18 (.t 5), .u 19 (.idx 6 (.t 17) (.t 18)), .u 20 (.fa 0 (.t 19)), .u 21 (.ld none 3 true (.t 20)), .m 22 (.t 1), .m 23 (.t 5), .u 24 (.idx 6 (.t 22) (.t 23)), .u 25 (.fa 0 (.t 24)), .u 26 (.ld none 3 true (.t 25)), .u 27 (.call f0 [(.t 21), (.t 26)]), .u 28 (.bin .neq (.t 27) (.i 0)), .m 29 (.t 28), .w 30 29 false (.mv (.t 0)), .w 31 29 false (.mv (.t 5)), .w 32 29 false (.idx 6 (.t 30) (.t 31)), .w 33 29 false (.fa 3 (.t 32)), .w 34 29 false (.ld none 3 true (.t 33)), .w 35 29 false (.mv (.t 1)), .w 36 29 false (.mv (.t 5)), .w 37 29 false (.idx 6 (.t 35) (.t 36)), .w 38 29 false (.fa 3 (.t 37)), .w 39 29 false (.ld none 3 true (.t 38)), .w 40 29 false (.call f0 [(.t 34), (.t 39)]), .w 41 29 false (.bin .neq (.t 40) (.i 0)), .u 42 (.pick (.t 29) .tr (.t 41))])
 (.fg [0, 1, 5, 42] (.cond (.t 42) (.seq (.ops false [.m 4 .fa])
 .ret) .skip))))
 (.fg [0, 1, 5] (.ops false [.m 15 (.t 5), .u 16 (.bin .add (.t 15) (.i 1)), .m 5 (.t 16)])))))))))
 (.fg [] (.seq (.ops false [.m 4 .tr])
 .ret)))))))
def ac_linkworkref52_Frac (f0 f1 f2 f3 : Nat) : AC := (.seq (.ops false [.u 1 (.box 3 (.t 0)), .u 2 (.alloc [(.lit (.bool false)), .emp, .emp])])
 (.fg [1, 2] (.seq (.ops false [.u 6 (.ld none 3 true (.t 1)), .u 7 (.call f0 [(.t 6)]), .u 8 (.call f1 [(.i 1)]), .u 9 (.call f2 [(.t 7), (.t 8)]), .m 5 (.t 9), .u 10 (.ext 0 (.t 5)), .u 11 (.ext 1 (.t 5)), .u 3 (.alloc [(.lit (.bool false)), .emp, .emp]), .n (.st none 3 (.t 3) (.t 10)), .m 4 (.t 11)])
 (.fg [1, 2, 3] (.seq (.ops false [.u 12 (.ld none 3 true (.t 1)), .u 13 (.ld none 3 true (.t 3)), .u 14 (.call f3 [(.t 12), (.t 13)]), .n (.st none 3 (.t 2) (.t 14))])
 .ret)))))
def ac_linkworklaw54_part (f0 : Nat) : AC := (.seq (.ops false [.u 4 (.alloc [(.lit (.bool false)), .emp, .emp])])
 (.fg [0, 1, 4] (.seq (.ops false [.m 8 (.t 0), .m 9 (.t 1), .u 10 (.call f0 [(.t 8), (.t 9)]), .m 7 (.t 10), .u 11 (.ext 0 (.t 7)), .u 12 (.ext 1 (.t 7)), .u 5 (.alloc [(.lit (.bool false)), .emp, .emp]), .n (.st none 3 (.t 5) (.t 11)), .m 6 (.t 12)])
 (.fg [4, 5] (.seq (.ops false [.u 13 (.ld none 3 true (.t 5)), .n (.st none 3 (.t 4) (.t 13))])
 .ret)))))
def ac_linkworklaw54_long : AC := (.seq (.ops false [.u 1 (.box 3 (.t 0)), .m 2 .fa])
 (.fg [1] (.seq (.ops false [.u 3 (.fa 1 (.t 1)), .u 4 (.ld none 1 false (.t 3)), .u 5 (.len (.t 4)), .u 6 (.fa 2 (.t 1)), .u 7 (.ld none 1 false (.t 6)), .u 8 (.len (.t 7)), .u 9 (.bin .add (.t 5) (.t 8)), .u 10 (.bin .gtr (.t 9) (.i 4)), .m 2 (.t 10)])
 .ret)))
def ac_linkworklaw54_large (f0 : Nat) : AC := (.seq (.ops false [.m 2 .fa])
 (.fg [0] (.seq (.seq (.ops false [.m 4 (.t 0), .u 5 (.len (.t 4)), .u 6 (.bin .gtr (.t 5) (.i 20))])
 (.fg [0, 6] (.cond (.t 6) (.seq (.ops false [.m 7 (.t 0), .u 8 (.len (.t 7)), .u 9 (.bin .leq (.t 8) (.i 64)), .m 10 (.t 9), .w 11 10 false (.mv (.t 0)), .w 12 10 false (.len (.t 11)), .w 13 10 false (.bin .gtr (.t 12) (.i 200)), .u 14 (.pick (.t 10) .tr (.t 13)), .m 2 (.t 14)])
 .ret) .skip)))
 (.fg [0] (.seq (.seq (.ops false [.m 3 (.i 0)])
 (.fg [0, 3] (.block 0 (.loop (.seq (.seq (.ops false [.m 15 (.t 3), .m 16 (.t 0), .u 17 (.len (.t 16)), .u 18 (.bin .lss (.t 15) (.t 17))])
 (.fg [0, 3, 18] (.cond (.t 18) .skip (.exit 0))))
 (.fg [0, 3] (.seq (.block 1 (.seq (.ops false [.m 21 (.t 0), .m 22 (.t 3), .u 23 (.idx 6 (.t 21) (.t 22)), .u 24 (.fa 0 (.t 23)), .u 25 (.ld none 3 true (.t 24)), .u 26 (.call f0 [(.t 25)]), .m 27 (.t 26), .w 28 27 false (.mv (.t 0)), .w 29 27 false (.mv (.t 3)), .w 30 27 false (.idx 6 (.t 28) (.t 29)), .w 31 27 false (.fa 3 (.t 30)), .w 32 27 false (.ld none 3 true (.t 31)), .w 33 27 false (.call f0 [(.t 32)]), .u 34 (.pick (.t 27) .tr (.t 33))])
 (.fg [0, 3, 34] (.cond (.t 34) (.seq (.ops false [.m 2 .tr])
 .ret) .skip))))
 (.fg [0, 3] (.ops false [.m 19 (.t 3), .u 20 (.bin .add (.t 19) (.i 1)), .m 3 (.t 20)])))))))))
 (.fg [] (.seq (.ops false [.m 2 .fa])
 .ret)))))))
def ac_linkworklaw54_valid (f0 f1 : Nat) : AC := (.seq (.ops false [.m 2 .fa])
 (.fg [0] (.seq (.ops false [.m 3 (.t 0), .u 4 (.call f0 [(.t 3)]), .u 5 (.un .not (.t 4)), .m 6 (.t 5), .w 7 6 true (.mv (.t 0)), .w 8 6 true (.call f1 [(.t 7)]), .w 9 6 true (.bin .eql (.t 8) (.i 0)), .u 10 (.pick (.t 6) (.t 9) .fa), .m 2 (.t 10)])
 .ret)))
def ac_chart_limited (tE : Nat) : AC := (.seq (.ops false [.m 2 (.c (.one .emp)), .m 3 (.c (.one (.lit .nilIface)))])
 (.fg [0] (.seq (.seq (.ops false [.m 4 (.t 0), .u 5 (.len (.t 4)), .u 6 (.bin .gtr (.t 5) (.i 64))])
 (.fg [0, 6] (.cond (.t 6) (.seq (.ops false [.u 7 (.iface tE (.i 4)), .m 2 (.c (.one .emp)), .m 3 (.t 7)])
 .ret) .skip)))
 (.fg [0] (.seq (.ops false [.m 8 (.t 0), .m 2 (.t 8), .m 3 (.c (.one (.lit .nilIface)))])
 .ret)))))
theorem rfrac_sound (hΓ : Holds P Γ) {f ff fo fr fs : Nat} (hf : Γ ff = .dat false rfloor_G) (ho : Γ fo = .dat false zof_G) (hr : Γ fr = .dat false rfrom2_G) (hs : Γ fs = .dat false rsub_G) (hc : check P f = some (15, (ac_linkworkref52_Frac ff fo fr fs).strip, [.cell 2 3 true])) : Sound P f (.dat false rfrac_G) := by
 refine sound_dat hc rfrac_good hΓ (fun args K hcl hfi hG => ?_)
 match args, hG with
 | [a], hG =>
  obtain ⟨x, rfl, hx, hl, hK⟩ := hG
  refine ⟨by simp, ?_⟩
  simp only [go_sem, ac_linkworkref52_Frac, hf, ho, hr, hs, hx]
  have n1 := num_le hx
  have e2 : Rat.divInt (rv x).floor 1 = ((rv x).floor : Rat) := Rat.num_divInt_den ((rv x).floor : Rat)
  have hfl : zs (rv x).floor ≤ rl x := by
   rw [Rat.floor_def]
   exact Nat.le_trans (zs_mono (Int.natAbs_ediv_le_natAbs _ _)) n1
  have hrz := rz_int (rv x).floor
  have h1 : zs 1 ≤ 2 := zs_of (by decide)
  rw [e2]
  exact ⟨by omega, by omega, by omega, by omega, by omega, by decide, by omega, by omega, hK⟩
theorem rpart_sound (hΓ : Holds P Γ) {f fm : Nat} (hm : Γ fm = .dat false rmake_G) (hc : check P f = some (14, (ac_linkworklaw54_part fm).strip, [.cell 4 3 true])) : Sound P f (.dat false rpart_G) := by
 refine sound_dat hc rpart_good hΓ (fun args K hcl hfi hG => ?_)
 match args, hG with
 | [a, b], hG =>
  obtain ⟨k, n, rfl, hG⟩ := asInt_inv hG
  obtain ⟨k', d, rfl, rfl, rfl, hn, hd, h0, hK⟩ := asInt_inv hG
  refine ⟨by simp, ?_⟩
  simp only [go_sem, ac_linkworklaw54_part, hm]
  exact ⟨hn, hd, h0, hK⟩
theorem rlong_sound (hΓ : Holds P Γ) {f : Nat} (hc : check P f = some (11, ac_linkworklaw54_long.strip, [.tmp 2])) : Sound P f (.dat true rlong_G) := by
 refine sound_dat hc rlong_good hΓ (fun args K hcl hfi hG => ?_)
 match args, hG with
 | [a], hG =>
  obtain ⟨x, rfl, hx, hl, hK⟩ := hG
  refine ⟨by simp, ?_⟩
  have hl1 : x.2.1.length ≤ 4294967296 := Nat.le_trans (Nat.le_max_left _ _) hl
  have hl2 : x.2.2.length ≤ 4294967296 := Nat.le_trans (Nat.le_max_right _ _) hl
  simp only [go_sem, ac_linkworklaw54_long, cb_eq, cn_eq, cd_eq]
  refine fun _ _ => ⟨by omega, ?_⟩
  have e : decide ((4 : Int) < ((x.2.1.length + x.2.2.length : Nat) : Int)) = longR x := by
   unfold longR; rw [decide_eq_decide]; omega
  rw [e]; exact hK
theorem rlarge_sound (hΓ : Holds P Γ) {f fl : Nat} (hl : Γ fl = .dat true rlong_G) (hc : check P f = some (35, (ac_linkworklaw54_large fl).strip, [.tmp 2])) : Sound P f (.dat true rlarge_G) := by
 refine sound_dat hc rlarge_good hΓ (fun args K hcl hfi hG => ?_)
 match args, hG with
 | [a], hG =>
  obtain ⟨l, rfl, hwl, hok, hK⟩ := hG
  refine ⟨by simp, ?_⟩
  simp only [go_sem, ac_linkworklaw54_large, hl]
  refine fun _ => ⟨fun h20 _ => ⟨fun h => ?_, fun h _ => ?_⟩, fun h20 => ?_⟩
  ·unfold largeL at hK
   rw [if_pos (by omega), decide_eq_true (show l.length ≤ 64 by omega), Bool.true_or] at hK
   exact hK
  ·unfold largeL at hK
   rw [if_pos (by omega), decide_eq_false (show ¬ l.length ≤ 64 by omega), Bool.false_or] at hK
   have e : decide ((200 : Int) < (l.length : Int)) = decide (200 < l.length) := by rw [decide_eq_decide]; omega
   rw [e]; exact hK
  unfold largeL at hK
  rw [if_neg (by omega)] at hK
  refine wpA_loop (fun j : Nat => ⟨mkV [(0, asA l), (3, .one (.lit (.int .i64 j)))], mkH []⟩) (fun j => j ≤ l.length ∧ (l.take j).any (fun x => longR x.1 || longR x.2) = false) (fun j => l.length - j) 0 ?_ ?_ ?_
  ·exact weak_lit (by simp [okS, okV, okC, okL, okH, okB, okE, mkV_cons, mkV_nil, mkH_cons, mkH_nil, wsA, ws, asA, as]) trivial
  ·simp only [List.take_zero, List.any_nil, and_true]; omega
  ·rintro j ⟨hj, hgood⟩
   simp only [go_sem, hl]
   intro _
   refine ⟨fun hlt2 => ?_, fun hge2 => ?_⟩
   ·obtain ⟨x, hx⟩ : ∃ x, l.getD j a0 = x := ⟨_, rfl⟩
    have hxm : x ∈ l := by
     rw [← hx, List.getD_eq_getElem?_getD, List.getElem?_eq_getElem hlt2]; exact List.getElem_mem _
    have hox := hok x hxm
    have hx1 : rl x.1 ≤ 4294967296 := Nat.le_trans (Nat.le_trans (Nat.le_max_left _ _) hox.2) (by decide)
    have hx2 : rl x.2 ≤ 4294967296 := Nat.le_trans (Nat.le_trans (Nat.le_max_right _ _) hox.2) (by decide)
    have hx3 := hox.1.1
    have hx4 := hox.1.2
    have hf1 : l.take (j + 1) = l.take j ++ [x] := by
     rw [List.take_add_one, List.getElem?_eq_getElem hlt2, ← hx, List.getD_eq_getElem?_getD, List.getElem?_eq_getElem hlt2]; rfl
    have yes : (longR x.1 || longR x.2) = true → K (AV.one (C.lit (Value.bool true))) := by
     intro h
     rw [List.any_eq_true.2 ⟨x, hxm, h⟩] at hK; exact hK
    simp only [go_sem, hx, aC_eq, hl, hx1, hx2, hx3, hx4]
    refine ⟨hlt2, fun h => yes (by rw [h]; rfl), fun h => ⟨hlt2, fun h' => yes (by rw [h']; simp), fun h' => ⟨by omega, j + 1, weak_lit (by simp [okS, okV, okC, okL, okH, okB, okE, mkV_cons, mkV_nil, mkH_cons, mkH_nil, wsA, ws]) trivial, ⟨by omega, ?_⟩, by omega⟩⟩⟩
    rw [hf1, List.any_append, hgood]
    simp [h, h']
   ·rw [List.take_of_length_le (by omega)] at hgood
    rw [hgood] at hK
    exact hK
theorem rvalidL_sound (hΓ : Holds P Γ) {f fl fk : Nat} (hl : Γ fl = .dat true rlarge_G) (hk : Γ fk = .dat true rcheck_G) (hc : check P f = some (11, (ac_linkworklaw54_valid fl fk).strip, [.tmp 2])) : Sound P f (.dat true rvalidL_G) := by
 refine sound_dat hc rvalidL_good hΓ (fun args K hcl hfi hG => ?_)
 match args, hG with
 | [a], hG =>
  obtain ⟨l, rfl, hwl, hok, hK⟩ := hG
  refine ⟨by simp, ?_⟩
  simp only [go_sem, ac_linkworklaw54_valid, hl, hk]
  unfold validL at hK
  refine ⟨hwl, hok, fun h => ?_, fun h => ⟨hwl, hok, ?_⟩⟩
  ·rw [h] at hK; exact hK
  ·rw [h, Bool.not_false, Bool.true_and] at hK; exact hK
theorem climit_sound (hΓ : Holds P Γ) {f tE : Nat} (hc : check P f = some (9, (ac_chart_limited tE).strip, [.tmp 2, .tmp 3])) : Sound P f (.dat false (climit_G tE)) := by
 refine sound_dat hc (climit_good tE) hΓ (fun args K hcl hfi hG => ?_)
 match args, hG with
 | [a], hG =>
  obtain ⟨l, rfl, hwl, hK⟩ := hG
  refine ⟨by simp, ?_⟩
  simp only [go_sem, ac_chart_limited]
  refine fun _ => ⟨fun h => ?_, fun h => ?_⟩
  ·rw [if_pos (by omega), if_pos (by omega), errV_s tE (by decide)] at hK
   exact hK
  ·rw [if_neg (by omega), if_neg (by omega), errV_0] at hK
   exact hK
theorem rsame_sound (hΓ : Holds P Γ) {f fc : Nat} (hc' : Γ fc = .dat true rcmp02_G) (hc : check P f = some (43, (ac_linkworkref54_Same fc).strip, [.tmp 4])) : Sound P f (.dat true rsame_G) := by
 refine sound_dat hc rsame_good hΓ (fun args K hcl hfi hG => ?_)
 match args, hG with
 | [a, b], hG =>
  obtain ⟨l, rfl, hwl, m, rfl, hwm, hokl, hokm, hK⟩ := hG
  refine ⟨by simp, ?_⟩
  simp only [go_sem, ac_linkworkref54_Same, hc']
  refine fun _ _ => ⟨fun hlen => ?_, fun hlen => ?_⟩
  rotate_left
  ·rw [decide_eq_false (fun h => hlen (by have := congrArg List.length h; simpa [vals] using this))] at hK; exact hK
  refine wpA_loop (fun j : Nat => ⟨mkV [(0, asA l), (1, asA m), (5, .one (.lit (.int .i64 j)))], mkH []⟩) (fun j => j ≤ l.length ∧ vals (l.take j) = vals (m.take j)) (fun j => l.length - j) 0 ?_ ?_ ?_
  ·exact weak_lit (by simp [okS, okV, okC, okL, okH, okB, okE, mkV_cons, mkV_nil, mkH_cons, mkH_nil, wsA, ws, asA, as]) trivial
  ·simp only [List.take_zero, and_true]; omega
  ·rintro j ⟨hj, hgood⟩
   simp only [go_sem, hc']
   intro _
   refine ⟨fun hlt2 => ?_, fun hge2 => ?_⟩
   ·have hlt3 : j < m.length := by omega
    obtain ⟨x, hx⟩ : ∃ x, l.getD j a0 = x := ⟨_, rfl⟩
    obtain ⟨y, hy⟩ : ∃ y, m.getD j a0 = y := ⟨_, rfl⟩
    have hx0 : l[j]? = some x := by rw [← hx, List.getD_eq_getElem?_getD, List.getElem?_eq_getElem hlt2]; rfl
    have hy0 : m[j]? = some y := by rw [← hy, List.getD_eq_getElem?_getD, List.getElem?_eq_getElem hlt3]; rfl
    have hox := hokl x (List.mem_of_getElem? hx0)
    have hoy := hokm y (List.mem_of_getElem? hy0)
    have hx1 : rl x.1 ≤ 1073741824 := Nat.le_trans (Nat.le_max_left _ _) hox.2
    have hx2 : rl x.2 ≤ 1073741824 := Nat.le_trans (Nat.le_max_right _ _) hox.2
    have hx3 := hox.1.1
    have hx4 := hox.1.2
    have hy1 : rl y.1 ≤ 1073741824 := Nat.le_trans (Nat.le_max_left _ _) hoy.2
    have hy2 : rl y.2 ≤ 1073741824 := Nat.le_trans (Nat.le_max_right _ _) hoy.2
    have hy3 := hoy.1.1
    have hy4 := hoy.1.2
    have hxy : vals l = vals m → av x = av y := by
     intro h
     have h1 : (vals l)[j]? = some (av x) := by simp [vals, List.getElem?_map, hx0]
     have h2 : (vals m)[j]? = some (av y) := by simp [vals, List.getElem?_map, hy0]
     rw [h, h2] at h1
     exact (Option.some.inj h1).symm
    have no : av x ≠ av y → K (AV.one (C.lit (Value.bool false))) := by
     intro h
     rw [decide_eq_false (fun h' => h (hxy h'))] at hK; exact hK
    simp only [go_sem, hx, hy, aC_eq, hc', hx1, hx2, hx3, hx4, hy1, hy2, hy3, hy4, hlt3]
    refine ⟨hlt2, fun h1 => ⟨hlt2, fun h2 => ⟨by omega, j + 1, weak_lit (by simp [okS, okV, okC, okL, okH, okB, okE, mkV_cons, mkV_nil, mkH_cons, mkH_nil, wsA, ws]) trivial, ⟨by omega, ?_⟩, by omega⟩, fun h2 => no (fun h => h2 (ordQ_eq0.2 (congrArg Prod.snd h)))⟩, fun h1 => no (fun h => h1 (ordQ_eq0.2 (congrArg Prod.fst h)))⟩
    have ea : av x = av y := Prod.ext (ordQ_eq0.1 h1) (ordQ_eq0.1 h2)
    rw [List.take_add_one, List.take_add_one, hx0, hy0]
    unfold vals at hgood ⊢
    rw [List.map_append, List.map_append, hgood]
    simp [ea]
   ·rw [List.take_of_length_le (by omega), List.take_of_length_le (by omega)] at hgood
    rw [decide_eq_true hgood] at hK
    exact hK
theorem rcheck_sound (hΓ : Holds P Γ) {f fv fs fo fc : Nat} (hv : Γ fv = .dat true rvalid_G) (hs : Γ fs = .dat true rsign_G) (ho : Γ fo = .dat false cone_G) (hc' : Γ fc = .dat true rcmp02_G) (hc : check P f = some (49, (ac_linkworkref54_Check fv fs fo fc).strip, [.tmp 2])) : Sound P f (.dat true rcheck_G) := by
 refine sound_dat hc rcheck_good hΓ (fun args K hcl hfi hG => ?_)
 match args, hG with
 | [a], hG =>
  obtain ⟨l, rfl, hwl, hok, hK⟩ := hG
  refine ⟨by simp, ?_⟩
  simp only [go_sem, ac_linkworkref54_Check, hv, hs, ho, hc']
  intro _
  refine ⟨fun h64 => ?_, fun h64 => ?_⟩
  ·have e : chk1 l = 4 := by unfold chk1; rw [if_pos (by omega)]
   rw [e] at hK
   exact hK
  refine wpA_loop (fun j : Nat => ⟨mkV [(0, asA l), (3, .one (.lit (.int .i64 j)))], mkH []⟩) (fun j => j ≤ l.length ∧ (l.take j).any badA = false) (fun j => l.length - j) 0 ?_ ?_ ?_
  ·exact weak_lit (by simp [okS, okV, okC, okL, okH, okB, okE, mkV_cons, mkV_nil, mkH_cons, mkH_nil, wsA, ws, asA, as]) trivial
  ·simp
  ·rintro j ⟨hj, hgood⟩
   simp only [go_sem, hv, hs, ho, hc']
   intro _
   refine ⟨fun hlt2 => ?_, fun hge2 => ?_⟩
   ·obtain ⟨x, hx⟩ : ∃ x, l.getD j a0 = x := ⟨_, rfl⟩
    have hxm : x ∈ l := by
     rw [← hx, List.getD_eq_getElem?_getD, List.getElem?_eq_getElem hlt2]; exact List.getElem_mem _
    have hox := hok x hxm
    have hx1 : rl x.1 ≤ 1073741824 := Nat.le_trans (Nat.le_max_left _ _) hox.2
    have hx2 : rl x.2 ≤ 1073741824 := Nat.le_trans (Nat.le_max_right _ _) hox.2
    have hx1' : rl x.1 ≤ 4294967296 := by omega
    have hx2' : rl x.2 ≤ 4294967296 := by omega
    have hx3 := hox.1.1
    have hx4 := hox.1.2
    simp only [go_sem, hx, aC_eq, hv, hs, ho, hc', hx1, hx2, hx1', hx2', hx3, hx4]
    have bad : badA x = true → K (AV.one (C.lit (Value.int IntKind.i64 3))) := by
     intro hb
     have e : chk1 l = 3 := by
      unfold chk1
      rw [if_neg (by omega), if_pos (List.any_eq_true.2 ⟨x, hxm, hb⟩)]
     rw [e] at hK
     exact hK
    have bad' : ¬ GoodA x → K (AV.one (C.lit (Value.int IntKind.i64 3))) := by
     intro hg
     refine bad ?_
     cases hb : badA x with
     | true => rfl
     | false => exact absurd (badA_f.1 hb) hg
    have hr1 : rz 1 ≤ 1073741824 := by
     have := rz_int 1
     have h1 : zs 1 ≤ 2 := zs_of (by decide)
     have e : ((1 : Int) : Rat) = 1 := rfl
     rw [e] at this
     omega
    refine ⟨hlt2, fun v1 => ⟨fun v2 => ⟨fun h => bad' (fun g => ?_), fun lo => ⟨hr1, fun h => bad' (fun g => ?_), fun hi => ⟨fun h => bad' (fun g => ?_), fun lt => ?_⟩⟩⟩, fun h => bad' (fun g => ?_)⟩, fun h => bad' (fun g => ?_)⟩
    ·exact absurd (ordQ_lt.1 h) (Rat.not_lt.2 g.lo)
    ·exact absurd (ordQ_gt.1 h) (Rat.not_lt.2 g.hi)
    ·exact absurd (ordQ_ge.1 h) (Rat.not_le.2 g.lt)
    ·refine ⟨by omega, j + 1, weak_lit (by simp [okS, okV, okC, okL, okH, okB, okE, mkV_cons, mkV_nil, mkH_cons, mkH_nil, wsA, ws]) trivial, ⟨by omega, ?_⟩, by omega⟩
     have hg : GoodA x := ⟨v1, v2, by rw [ordQ_lt, Rat.not_lt] at lo; exact lo, by rw [ordQ_gt, Rat.not_lt] at hi; exact hi, by rw [ordQ_ge, Rat.not_le] at lt; exact lt⟩
     have e : l.take (j + 1) = l.take j ++ [x] := by
      rw [List.take_add_one, List.getElem?_eq_getElem hlt2, ← hx, List.getD_eq_getElem?_getD, List.getElem?_eq_getElem hlt2]; rfl
     rw [e, List.any_append, hgood]
     simp [badA_f.2 hg]
    ·rw [g.v2] at h; exact absurd h (by simp)
    ·rw [g.v1] at h; exact absurd h (by simp)
   ·have e : chk1 l = 0 := by
     unfold chk1
     rw [List.take_of_length_le (by omega)] at hgood
     rw [if_neg (by omega), hgood]; rfl
    rw [e] at hK
    exact hK
end Go.Abs
end
section
set_option linter.unusedVariables false
set_option linter.unusedSimpArgs false
set_option maxRecDepth 100000
namespace Go.Num
def sh1 (by' : Rat) (a : Q2) : List Q2 :=
 let f := frac (a.1 + by')
 let t := f + (a.2 - a.1)
 if 1 < t then (0, t - 1) :: (if f < 1 then [(f, 1)] else []) else (if f < t then [(f, t)] else [])
def shL (by' : Rat) (l : List Q2) : List Q2 := l.flatMap (sh1 by')
def lim64 (l : List Q2) : List Q2 := if 64 < l.length then [] else l
def code64 (l : List Q2) : Nat := if 64 < l.length then 4 else 0
def shOut (l : List Arc) (y : R) : List Q2 := if chk [l] = 0 ∧ vldR y = true then lim64 (nrm (shL (rv y) (vals l))) else []
def shCode (l : List Arc) (y : R) : Nat := if chk [l] = 0 then (if vldR y = true then code64 (nrm (shL (rv y) (vals l))) else 3) else chk [l]
theorem sh1_pos (y : Rat) (a : Q2) : Pos (sh1 y a) := by
 intro b hb
 unfold sh1 at hb
 simp only at hb
 split at hb
 ·rename_i h
  rcases List.mem_cons.1 hb with rfl | hb
  ·simp only; grind
  ·split at hb
   ·rw [List.mem_singleton] at hb; subst hb; assumption
   ·simp at hb
 ·split at hb
  ·rw [List.mem_singleton] at hb; subst hb; assumption
  ·simp at hb
theorem sh1_len (y : Rat) (a : Q2) : (sh1 y a).length ≤ 2 := by
 unfold sh1; simp only; split <;> split <;> simp
theorem shL_len (y : Rat) (l : List Q2) : (shL y l).length ≤ 2 * l.length := by
 induction l with
 | nil => simp [shL]
 | cons a l ih =>
  have := sh1_len y a
  simp only [shL, List.flatMap_cons, List.length_append, List.length_cons] at ih ⊢
  omega
theorem okA_can {b : Nat} {q : Q2} (h1 : rz q.1 ≤ b) (h2 : rz q.2 ≤ b) : okA b (acan q) := ⟨WLA_can q, Nat.max_le.2 ⟨h1, h2⟩⟩
theorem vals_can (l : List Q2) : vals (l.map acan) = l := by unfold vals; simp [List.map_map, Function.comp_def, av_can]
theorem rz_one : rz 1 ≤ 2 := by
 have := rz_int 1
 have h1 : zs 1 ≤ 2 := zs_of (by decide)
 have e : ((1 : Int) : Rat) = 1 := rfl
 rw [e] at this
 omega
end Go.Num
namespace Go.Abs
open Go.Num
variable {P : Program} {Γ : Nat → Spec}
def cShift_G (tE m : Nat) (l : List AV) (K : AV → Prop) : Prop :=
 match l with
 | [a, b] => onAs (fun l => onR (fun y => (chk [l] = 0 → 2 * l.length ≤ m) ∧ okAs 10000000 l ∧ rl y ≤ 10000000 ∧ K (.tup [.one (.slice (((shOut l y).map acan).map aC)), errV tE (shCode l y)])) b) a
 | _ => False
theorem cShift_Ge (tE m : Nat) (a b : AV) (K : AV → Prop) : cShift_G tE m [a, b] K = (onAs (fun l => onR (fun y => (chk [l] = 0 → 2 * l.length ≤ m) ∧ okAs 10000000 l ∧ rl y ≤ 10000000 ∧ K (.tup [.one (.slice (((shOut l y).map acan).map aC)), errV tE (shCode l y)])) b) a) := propext Iff.rfl
@[congr] theorem cShift_Gc (tE m : Nat) {K : AV → Prop} {l l' : List AV} (h : l = l') : cShift_G tE m l K = cShift_G tE m l' K := by subst h; rfl
attribute [go_sem] cShift_Ge
attribute [go_sem ↓] cShift_Ge
theorem cShift_good (tE m : Nat) : Good (cShift_G tE m) := good_of fun as => by
 unfold cShift_G
 split
 ·exact (g_onAs fun _ => (g_onR fun _ => (.and fun _ => (.and fun _ => (.and fun _ => (.ret _))))))
 ·exact .of fun K hk => hk.elim
def ac_chart_Shift (f0 f1 f2 f3 f4 f5 f6 f7 f8 f9 tE : Nat) : AC := (.seq (.ops false [.u 3 (.box 3 (.t 1)), .m 4 (.c (.one .emp)), .m 5 (.c (.one (.lit .nilIface)))])
 (.fg [0, 3] (.seq (.seq (.ops false [.m 14 (.t 0), .u 15 (.row 1 [[.x 1 (.t 14)]]), .u 16 (.call f0 [(.t 15)]), .m 6 (.t 16)])
 (.fg [0, 3, 6] (.seq (.ops false [.m 17 (.t 6), .u 18 (.binn .neq (.t 17) (.c (.one (.lit .nilIface))))])
 (.fg [0, 3, 6, 18] (.cond (.t 18) (.seq (.ops false [.m 19 (.t 6), .m 4 (.c (.one .emp)), .m 5 (.t 19)])
 .ret) .skip)))))
 (.fg [0, 3] (.seq (.seq (.ops false [.u 20 (.ld none 3 true (.t 3)), .u 21 (.call f1 [(.t 20)]), .u 22 (.un .not (.t 21))])
 (.fg [0, 3, 22] (.cond (.t 22) (.seq (.ops false [.u 23 (.iface tE (.i 3)), .m 4 (.c (.one .emp)), .m 5 (.t 23)])
 .ret) .skip)))
 (.fg [0, 3] (.seq (.ops false [.m 7 (.c (.one .emp))])
 (.fg [0, 3, 7] (.seq (.seq (.ops false [.m 24 (.t 0), .u 25 (.len (.t 24)), .m 26 (.i 0)])
 (.fg [3, 7, 24, 25, 26] (.block 0 (.loop (.seq (.ops false [.u 27 (.bin .lss (.t 26) (.t 25))])
 (.fg [3, 7, 24, 25, 26, 27] (.seq (.cond (.t 27) .skip (.exit 0))
 (.fg [3, 7, 24, 25, 26] (.seq (.block 1 (.seq (.ops false [.u 28 (.idx 6 (.t 24) (.t 26)), .u 29 (.ld none 6 true (.t 28)), .u 9 (.alloc [(.lit (.bool false)), .emp, .emp, (.lit (.bool false)), .emp, .emp]), .n (.st none 6 (.t 9) (.t 29))])
 (.fg [3, 7, 9, 24, 25, 26] (.seq (.ops false [.u 31 (.fa 0 (.t 9)), .u 32 (.ld none 3 true (.t 31)), .u 33 (.ld none 3 true (.t 3)), .u 34 (.call f2 [(.t 32), (.t 33)]), .u 35 (.call f3 [(.t 34)]), .m 30 (.t 35), .u 36 (.ext 0 (.t 30)), .u 37 (.ext 1 (.t 30)), .u 10 (.alloc [(.lit (.bool false)), .emp, .emp]), .n (.st none 3 (.t 10) (.t 36)), .m 11 (.t 37)])
 (.fg [3, 7, 9, 10, 11, 24, 25, 26] (.seq (.seq (.ops false [.m 38 (.t 11), .u 39 (.binn .neq (.t 38) (.c (.one (.lit .nilIface))))])
 (.fg [3, 7, 9, 10, 11, 24, 25, 26, 39] (.cond (.t 39) (.seq (.ops false [.m 40 (.t 11), .m 4 (.c (.one .emp)), .m 5 (.t 40)])
 .ret) .skip)))
 (.fg [3, 7, 9, 10, 24, 25, 26] (.seq (.ops true [.u 41 (.ld none 3 true (.t 10)), .u 42 (.fa 3 (.t 9)), .u 43 (.ld none 3 true (.t 42)), .u 44 (.fa 0 (.t 9)), .u 45 (.ld none 3 true (.t 44)), .u 46 (.call f4 [(.t 43), (.t 45)]), .u 47 (.call f2 [(.t 41), (.t 46)]), .u 12 (.alloc [(.lit (.bool false)), .emp, .emp]), .n (.st none 3 (.t 12) (.t 47))])
 (.fg [3, 7, 10, 12, 24, 25, 26] (.seq (.seq (.ops true [.u 48 (.ld none 3 true (.t 12)), .u 49 (.call f5 []), .u 50 (.call f4 [(.t 48), (.t 49)]), .u 13 (.alloc [(.lit (.bool false)), .emp, .emp]), .n (.st none 3 (.t 13) (.t 50))])
 (.fg [3, 7, 10, 12, 13, 24, 25, 26] (.seq (.ops false [.u 51 (.ld none 3 true (.t 13)), .u 52 (.call f6 [(.t 51)]), .u 53 (.bin .gtr (.t 52) (.i 0))])
 (.fg [3, 7, 10, 12, 13, 24, 25, 26, 53] (.cond (.t 53) (.seq (.ops false [.m 54 (.t 7), .u 55 (.ld none 3 true (.t 13)), .u 56 (.build [.z [(.lit (.bool false)), .emp, .emp], .x 3 (.t 55)]), .u 57 (.row 6 [[.x 6 (.t 56)]]), .u 58 (.app 6 (.t 54) (.t 57)), .m 7 (.t 58)])
 (.fg [3, 7, 10, 12, 24, 25, 26] (.ops false [.u 59 (.call f5 []), .n (.st none 3 (.t 12) (.t 59))]))) .skip)))))
 (.fg [3, 7, 10, 12, 24, 25, 26] (.seq (.ops false [.u 60 (.ld none 3 true (.t 10)), .u 61 (.ld none 3 true (.t 12)), .u 62 (.call f7 [(.t 60), (.t 61)]), .u 63 (.bin .lss (.t 62) (.i 0))])
 (.fg [3, 7, 10, 12, 24, 25, 26, 63] (.cond (.t 63) (.ops false [.m 64 (.t 7), .u 65 (.ld none 3 true (.t 10)), .u 66 (.ld none 3 true (.t 12)), .u 67 (.build [.x 3 (.t 65), .x 3 (.t 66)]), .u 68 (.row 6 [[.x 6 (.t 67)]]), .u 69 (.app 6 (.t 64) (.t 68)), .m 7 (.t 69)]) .skip))))))))))))))
 (.fg [3, 7, 24, 25, 26] (.ops false [.u 70 (.bin .add (.t 26) (.i 1)), .m 26 (.t 70)])))))))))))
 (.fg [7] (.seq (.ops false [.m 71 (.t 7), .u 72 (.call f8 [(.t 71)]), .u 73 (.call f9 [(.t 72)]), .u 74 (.ext 0 (.t 73)), .u 75 (.ext 1 (.t 73)), .m 4 (.t 74), .m 5 (.t 75)])
 .ret)))))))))))
theorem okB_r {h h' : Nat → HB} {z : Nat} {b : Bool} {y : R} : okB h h' (some ⟨[[cb y, cn y, cd y]], z, b⟩) (some ⟨[[cb y, cn y, cd y]], z, b⟩) :=
 ⟨⟨rfl, rfl⟩, .inl ⟨rfl, fun e he c hc => by rw [List.mem_singleton] at he; subst he; exact clean_ref3 y c hc⟩⟩
theorem cShift_sound (hΓ : Holds P Γ) {f fk fv fa fw fs fo fg fc fn fl tE m : Nat} (hm64 : m ≤ 200) (hk : Γ fk = .dat false (ccheck_G tE)) (hv : Γ fv = .dat true rvalid_G) (ha : Γ fa = .dat false radd_G) (hw : Γ fw = .dat false cwrap_G) (hs : Γ fs = .dat false rsub_G)
  (ho : Γ fo = .dat false cone_G) (hg : Γ fg = .dat true rsign_G) (hc' : Γ fc = .dat true rcmp_G) (hn : Γ fn = .dat false (cnorm_G m)) (hl : Γ fl = .dat false (climit_G tE)) (hc : check P f = some (76, (ac_chart_Shift fk fv fa fw fs fo fg fc fn fl tE).strip, [.tmp 4, .tmp 5])) : Sound P f (.dat false (cShift_G tE m)) := by
 refine sound_dat hc (cShift_good tE m) hΓ (fun args K hcl hfi hG => ?_)
 match args, hG with
 | [a, b], hG =>
  obtain ⟨l, rfl, hwl, y, rfl, hy, hlm, hok, hyl, hK⟩ := hG
  refine ⟨by simp, ?_⟩
  have hokb : okAs 4294967296 l := okAs_mono hok (by decide)
  have hyl' : rl y ≤ 4294967296 := by omega
  by_cases h0 : chk [l] = 0
  ·cases hvy : vldR y with
   | false =>
    simp only [shOut, shCode, h0, hvy] at hK
    simp only [go_sem, ac_chart_Shift, hk, hv, h0, errV_0, hy, hyl', hvy]
    refine ⟨hwl, fun x hx => by rw [List.mem_singleton] at hx; subst hx; exact hokb, ?_⟩
    simp only [if_true, Bool.false_eq_true, and_false, if_false, List.map_nil, errV_s tE (show 3 ≠ 0 by decide)] at hK
    exact hK
   | true =>
    simp only [go_sem, ac_chart_Shift, hk, hv, ha, hw, hs, ho, hg, hc', hn, hl, h0, errV_0, hy, hyl', hvy]
    refine ⟨hwl, fun x hx => by rw [List.mem_singleton] at hx; subst hx; exact hokb, fun _ => ?_⟩
    have hll := (chk1_0 (chk_1 l ▸ h0)).1
    refine wpA_loop (fun p : Nat × Option (Bool × List Q2) => match p.2 with
      | none => ⟨mkV [(3, .one (.ptr 3 1 0 0)), (7, .one .emp), (24, asA l), (25, .one (.lit (.int .i64 l.length))), (26, .one (.lit (.int .i64 p.1)))], mkH [(3, ⟨1, some ⟨[[cb y, cn y, cd y]], 3, true⟩⟩)]⟩
      | some (false, L) => ⟨mkV [(3, .one (.ptr 3 1 0 0)), (7, .one (.own 58 1 6 0 L.length)), (24, asA l), (25, .one (.lit (.int .i64 l.length))), (26, .one (.lit (.int .i64 p.1)))], mkH [(3, ⟨1, some ⟨[[cb y, cn y, cd y]], 3, true⟩⟩), (58, ⟨1, some ⟨(L.map acan).map aC, 6, true⟩⟩)]⟩
      | some (true, L) => ⟨mkV [(3, .one (.ptr 3 1 0 0)), (7, .one (.own 69 1 6 0 L.length)), (24, asA l), (25, .one (.lit (.int .i64 l.length))), (26, .one (.lit (.int .i64 p.1)))], mkH [(3, ⟨1, some ⟨[[cb y, cn y, cd y]], 3, true⟩⟩), (69, ⟨1, some ⟨(L.map acan).map aC, 6, true⟩⟩)]⟩)
     (fun p => p.1 ≤ l.length ∧ ((p.2.map Prod.snd).getD []) = shL (rv y) (vals (l.take p.1)) ∧ ∀ b L, p.2 = some (b, L) → okAs 1000000000 (L.map acan)) (fun p => l.length - p.1) (0, none) ?_ ?_ ?_
    ·exact weak_lit (by simp [okS, okV, okC, okL, okH, okB, okE, mkV_cons, mkV_nil, mkH_cons, mkH_nil, wsA, ws, asA, as]) ⟨okB_r, trivial⟩
    ·exact ⟨Nat.zero_le _, rfl, fun b L h => by simp at h⟩
    ·rintro ⟨k, w⟩ ⟨hkl, hw', hwz⟩
     simp only at hkl hw' hwz
     by_cases hlt : k < l.length
     ·obtain ⟨x, hx⟩ : ∃ x, l.getD k a0 = x := ⟨_, rfl⟩
      have hx0 : l[k]? = some x := by rw [← hx, List.getD_eq_getElem?_getD, List.getElem?_eq_getElem hlt]; rfl
      have hox := hok x (List.mem_of_getElem? hx0)
      have hx1 : rl x.1 ≤ 10000000 := Nat.le_trans (Nat.le_max_left _ _) hox.2
      have hx2 : rl x.2 ≤ 10000000 := Nat.le_trans (Nat.le_max_right _ _) hox.2
      have hx3 := hox.1.1
      have hx4 := hox.1.2
      have hx1' : rl x.1 ≤ 4294967296 := by omega
      have hx2' : rl x.2 ≤ 4294967296 := by omega
      have r1 := rz_rv hx3
      have r2 := rz_rv hx4
      have r3 := rz_rv hy
      have s1 := rz_add (rv x.1) (rv y)
      have s2 := rz_frac (rv x.1 + rv y)
      have s3 := rz_sub (rv x.2) (rv x.1)
      generalize hfr : frac (rv x.1 + rv y) = fr at *
      have s4 := rz_add fr (rv x.2 - rv x.1)
      generalize htt : fr + (rv x.2 - rv x.1) = tt at *
      have s5 := rz_sub tt 1
      have s6 := rz_one
      have c1 : rz (rv x.1 + rv y) ≤ 1073741824 := by omega
      have c2 : rz fr ≤ 4294967296 := by omega
      have c3 : rz (rv x.2 - rv x.1) ≤ 4294967296 := by omega
      have c4 : rz tt ≤ 4294967296 := by omega
      have c5 : rz 1 ≤ 4294967296 := by omega
      have c6 : rz (tt - 1) ≤ 4294967296 := by omega
      have hgt1 : (0 < ordQ (tt - 1) 0) = (1 < tt) := propext (by
       rw [ordQ_gt]
       exact (Rat.lt_iff_sub_pos 1 tt).symm)
      have hsh : sh1 (rv y) (av x) = if 1 < tt then (0, tt - 1) :: (if fr < 1 then [(fr, 1)] else []) else (if fr < tt then [(fr, tt)] else []) := by
       rw [← htt, ← hfr]; rfl
      have hN : okAs 1000000000 ((sh1 (rv y) (av x)).map acan) := by
       rw [hsh]
       intro z hz
       obtain ⟨q, hq, rfl⟩ := List.mem_map.1 hz
       have : rz q.1 ≤ 1000000000 ∧ rz q.2 ≤ 1000000000 := by
        split at hq
        ·rcases List.mem_cons.1 hq with rfl | hq
         ·simp only [rz_zero]; omega
         ·split at hq
          ·rw [List.mem_singleton] at hq; subst hq; simp only; omega
          ·simp at hq
        ·split at hq
         ·rw [List.mem_singleton] at hq; subst hq; simp only; omega
         ·simp at hq
       exact okA_can this.1 this.2
      have hstep : shL (rv y) (vals (l.take (k + 1))) = shL (rv y) (vals (l.take k)) ++ sh1 (rv y) (av x) := by
       rw [List.take_add_one, hx0]
       simp [vals, shL]
      have hLl0 : ∀ b L, w = some (b, L) → L.length ≤ 2 * k := by
       intro b L h
       have h1 := shL_len (rv y) (vals (l.take k))
       rw [← hw', h] at h1
       simp only [Option.map_some, Option.getD_some, vals, List.length_map, List.length_take] at h1
       omega
      match w, hw', hwz, hLl0 with
      | none, hw', hwz, hLl0 =>
       simp only [go_sem, ha, hw, hs, ho, hg, hc', hn, hl, errV_0, hy, hyl', hlt, hx, aC_eq, hx1', hx2', hx3, hx4, c1, c2, c3, c4, c5, c6, hfr, htt, hgt1, ordQ_lt, List.length_append]
       refine ⟨fun h1 => ⟨by simp, ?_⟩, fun h1 => ⟨fun h2 => ⟨by simp, ?_⟩, fun h2 => ?_⟩⟩
       ·refine ⟨fun h2 => ⟨by simp, ?_⟩, fun h2 => ?_⟩
        ·refine ⟨by omega, (k + 1, some (false, [(0, tt - 1), (fr, 1)])), weak_lit (by simp [okS, okV, okC, okL, okH, okB, okE, mkV_cons, mkV_nil, mkH_cons, mkH_nil, wsA, ws, asA, as]) ⟨okB_r, okB_a (by simp [aC, acan, rcan_zero, cb, cn, cd, ws]), trivial⟩, ⟨by simp only; omega, ?_, fun b' L' h => ?_⟩, by simp only; omega⟩
         ·have hNN : sh1 (rv y) (av x) = [(0, tt - 1), (fr, 1)] := by rw [hsh]; simp [h1, h2]
          simp only [Option.map_some, Option.getD_some, hstep, ← hw', hNN]
          try simp
         ·have hNN : sh1 (rv y) (av x) = [(0, tt - 1), (fr, 1)] := by rw [hsh]; simp [h1, h2]
          simp only [Option.some.injEq, Prod.mk.injEq] at h
          obtain ⟨_, rfl⟩ := h
          rw [hNN] at hN
          exact hN
        ·refine ⟨by omega, (k + 1, some (false, [(0, tt - 1)])), weak_lit (by simp [okS, okV, okC, okL, okH, okB, okE, mkV_cons, mkV_nil, mkH_cons, mkH_nil, wsA, ws, asA, as]) ⟨okB_r, okB_a (by simp [aC, acan, rcan_zero, cb, cn, cd, ws]), trivial⟩, ⟨by simp only; omega, ?_, fun b' L' h => ?_⟩, by simp only; omega⟩
         ·have hNN : sh1 (rv y) (av x) = [(0, tt - 1)] := by rw [hsh]; simp [h1, h2]
          simp only [Option.map_some, Option.getD_some, hstep, ← hw', hNN]
          try simp
         ·have hNN : sh1 (rv y) (av x) = [(0, tt - 1)] := by rw [hsh]; simp [h1, h2]
          simp only [Option.some.injEq, Prod.mk.injEq] at h
          obtain ⟨_, rfl⟩ := h
          rw [hNN] at hN
          exact hN
       ·refine ⟨by omega, (k + 1, some (true, [(fr, tt)])), weak_lit (by simp [okS, okV, okC, okL, okH, okB, okE, mkV_cons, mkV_nil, mkH_cons, mkH_nil, wsA, ws, asA, as]) ⟨okB_r, okB_a (by simp [aC, acan, rcan_zero, cb, cn, cd, ws]), trivial⟩, ⟨by simp only; omega, ?_, fun b' L' h => ?_⟩, by simp only; omega⟩
        ·have hNN : sh1 (rv y) (av x) = [(fr, tt)] := by rw [hsh]; simp [h1, h2]
         simp only [Option.map_some, Option.getD_some, hstep, ← hw', hNN]
         try simp
        ·have hNN : sh1 (rv y) (av x) = [(fr, tt)] := by rw [hsh]; simp [h1, h2]
         simp only [Option.some.injEq, Prod.mk.injEq] at h
         obtain ⟨_, rfl⟩ := h
         rw [hNN] at hN
         exact hN
       ·refine ⟨by omega, (k + 1, none), weak_lit (by simp [okS, okV, okC, okL, okH, okB, okE, mkV_cons, mkV_nil, mkH_cons, mkH_nil, wsA, ws, asA, as]) ⟨okB_r, trivial⟩, ⟨by simp only; omega, ?_, fun b' L' h => ?_⟩, by simp only; omega⟩
        ·have hNN : sh1 (rv y) (av x) = [] := by rw [hsh]; simp [h1, h2]
         simp only [hstep, ← hw', hNN]
         simp
        ·simp at h
      | some (false, L), hw', hwz, hLl0 =>
       simp only [go_sem, ha, hw, hs, ho, hg, hc', hn, hl, errV_0, hy, hyl', hlt, hx, aC_eq, hx1', hx2', hx3, hx4, c1, c2, c3, c4, c5, c6, hfr, htt, hgt1, ordQ_lt, List.length_append]
       have hLl := hLl0 _ _ rfl
       refine ⟨fun h1 => ⟨by simp, by omega, ?_⟩, fun h1 => ⟨fun h2 => ⟨by simp, by omega, ?_⟩, fun h2 => ?_⟩⟩
       ·refine ⟨fun h2 => ⟨by simp, by omega, ?_⟩, fun h2 => ?_⟩
        ·refine ⟨by omega, (k + 1, some (false, L ++ [(0, tt - 1), (fr, 1)])), weak_lit (by simp [okS, okV, okC, okL, okH, okB, okE, mkV_cons, mkV_nil, mkH_cons, mkH_nil, wsA, ws, asA, as]) ⟨okB_r, okB_a (by simp [aC, acan, rcan_zero, cb, cn, cd, ws]), trivial⟩, ⟨by simp only; omega, ?_, fun b' L' h => ?_⟩, by simp only; omega⟩
         ·have hNN : sh1 (rv y) (av x) = [(0, tt - 1), (fr, 1)] := by rw [hsh]; simp [h1, h2]
          simp only [Option.map_some, Option.getD_some, hstep, ← hw', hNN]
          try simp
         ·have hNN : sh1 (rv y) (av x) = [(0, tt - 1), (fr, 1)] := by rw [hsh]; simp [h1, h2]
          simp only [Option.some.injEq, Prod.mk.injEq] at h
          obtain ⟨_, rfl⟩ := h
          rw [hNN] at hN
          rw [List.map_append]; exact okAs_append.2 ⟨hwz _ _ rfl, hN⟩
        ·refine ⟨by omega, (k + 1, some (false, L ++ [(0, tt - 1)])), weak_lit (by simp [okS, okV, okC, okL, okH, okB, okE, mkV_cons, mkV_nil, mkH_cons, mkH_nil, wsA, ws, asA, as]) ⟨okB_r, okB_a (by simp [aC, acan, rcan_zero, cb, cn, cd, ws]), trivial⟩, ⟨by simp only; omega, ?_, fun b' L' h => ?_⟩, by simp only; omega⟩
         ·have hNN : sh1 (rv y) (av x) = [(0, tt - 1)] := by rw [hsh]; simp [h1, h2]
          simp only [Option.map_some, Option.getD_some, hstep, ← hw', hNN]
          try simp
         ·have hNN : sh1 (rv y) (av x) = [(0, tt - 1)] := by rw [hsh]; simp [h1, h2]
          simp only [Option.some.injEq, Prod.mk.injEq] at h
          obtain ⟨_, rfl⟩ := h
          rw [hNN] at hN
          rw [List.map_append]; exact okAs_append.2 ⟨hwz _ _ rfl, hN⟩
       ·refine ⟨by omega, (k + 1, some (false, L ++ [(fr, tt)])), weak_lit (by simp [okS, okV, okC, okL, okH, okB, okE, mkV_cons, mkV_nil, mkH_cons, mkH_nil, wsA, ws, asA, as]) ⟨okB_r, okB_a (by simp [aC, acan, rcan_zero, cb, cn, cd, ws]), trivial⟩, ⟨by simp only; omega, ?_, fun b' L' h => ?_⟩, by simp only; omega⟩
        ·have hNN : sh1 (rv y) (av x) = [(fr, tt)] := by rw [hsh]; simp [h1, h2]
         simp only [Option.map_some, Option.getD_some, hstep, ← hw', hNN]
         try simp
        ·have hNN : sh1 (rv y) (av x) = [(fr, tt)] := by rw [hsh]; simp [h1, h2]
         simp only [Option.some.injEq, Prod.mk.injEq] at h
         obtain ⟨_, rfl⟩ := h
         rw [hNN] at hN
         rw [List.map_append]; exact okAs_append.2 ⟨hwz _ _ rfl, hN⟩
       ·refine ⟨by omega, (k + 1, some (false, L)), weak_lit (by simp [okS, okV, okC, okL, okH, okB, okE, mkV_cons, mkV_nil, mkH_cons, mkH_nil, wsA, ws, asA, as]) ⟨okB_r, okB_a rfl, trivial⟩, ⟨by simp only; omega, ?_, fun b' L' h => ?_⟩, by simp only; omega⟩
        ·have hNN : sh1 (rv y) (av x) = [] := by rw [hsh]; simp [h1, h2]
         simp only [hstep, ← hw', hNN]
         simp
        ·exact hwz _ _ h
      | some (true, L), hw', hwz, hLl0 =>
       simp only [go_sem, ha, hw, hs, ho, hg, hc', hn, hl, errV_0, hy, hyl', hlt, hx, aC_eq, hx1', hx2', hx3, hx4, c1, c2, c3, c4, c5, c6, hfr, htt, hgt1, ordQ_lt, List.length_append]
       have hLl := hLl0 _ _ rfl
       refine ⟨fun h1 => ⟨by simp, by omega, ?_⟩, fun h1 => ⟨fun h2 => ⟨by simp, by omega, ?_⟩, fun h2 => ?_⟩⟩
       ·refine ⟨fun h2 => ⟨by simp, by omega, ?_⟩, fun h2 => ?_⟩
        ·refine ⟨by omega, (k + 1, some (true, L ++ [(0, tt - 1), (fr, 1)])), weak_lit (by simp [okS, okV, okC, okL, okH, okB, okE, mkV_cons, mkV_nil, mkH_cons, mkH_nil, wsA, ws, asA, as]) ⟨okB_r, okB_a (by simp [aC, acan, rcan_zero, cb, cn, cd, ws]), trivial⟩, ⟨by simp only; omega, ?_, fun b' L' h => ?_⟩, by simp only; omega⟩
         ·have hNN : sh1 (rv y) (av x) = [(0, tt - 1), (fr, 1)] := by rw [hsh]; simp [h1, h2]
          simp only [Option.map_some, Option.getD_some, hstep, ← hw', hNN]
          try simp
         ·have hNN : sh1 (rv y) (av x) = [(0, tt - 1), (fr, 1)] := by rw [hsh]; simp [h1, h2]
          simp only [Option.some.injEq, Prod.mk.injEq] at h
          obtain ⟨_, rfl⟩ := h
          rw [hNN] at hN
          rw [List.map_append]; exact okAs_append.2 ⟨hwz _ _ rfl, hN⟩
        ·refine ⟨by omega, (k + 1, some (true, L ++ [(0, tt - 1)])), weak_lit (by simp [okS, okV, okC, okL, okH, okB, okE, mkV_cons, mkV_nil, mkH_cons, mkH_nil, wsA, ws, asA, as]) ⟨okB_r, okB_a (by simp [aC, acan, rcan_zero, cb, cn, cd, ws]), trivial⟩, ⟨by simp only; omega, ?_, fun b' L' h => ?_⟩, by simp only; omega⟩
         ·have hNN : sh1 (rv y) (av x) = [(0, tt - 1)] := by rw [hsh]; simp [h1, h2]
          simp only [Option.map_some, Option.getD_some, hstep, ← hw', hNN]
          try simp
         ·have hNN : sh1 (rv y) (av x) = [(0, tt - 1)] := by rw [hsh]; simp [h1, h2]
          simp only [Option.some.injEq, Prod.mk.injEq] at h
          obtain ⟨_, rfl⟩ := h
          rw [hNN] at hN
          rw [List.map_append]; exact okAs_append.2 ⟨hwz _ _ rfl, hN⟩
       ·refine ⟨by omega, (k + 1, some (true, L ++ [(fr, tt)])), weak_lit (by simp [okS, okV, okC, okL, okH, okB, okE, mkV_cons, mkV_nil, mkH_cons, mkH_nil, wsA, ws, asA, as]) ⟨okB_r, okB_a (by simp [aC, acan, rcan_zero, cb, cn, cd, ws]), trivial⟩, ⟨by simp only; omega, ?_, fun b' L' h => ?_⟩, by simp only; omega⟩
        ·have hNN : sh1 (rv y) (av x) = [(fr, tt)] := by rw [hsh]; simp [h1, h2]
         simp only [Option.map_some, Option.getD_some, hstep, ← hw', hNN]
         try simp
        ·have hNN : sh1 (rv y) (av x) = [(fr, tt)] := by rw [hsh]; simp [h1, h2]
         simp only [Option.some.injEq, Prod.mk.injEq] at h
         obtain ⟨_, rfl⟩ := h
         rw [hNN] at hN
         rw [List.map_append]; exact okAs_append.2 ⟨hwz _ _ rfl, hN⟩
       ·refine ⟨by omega, (k + 1, some (true, L)), weak_lit (by simp [okS, okV, okC, okL, okH, okB, okE, mkV_cons, mkV_nil, mkH_cons, mkH_nil, wsA, ws, asA, as]) ⟨okB_r, okB_a rfl, trivial⟩, ⟨by simp only; omega, ?_, fun b' L' h => ?_⟩, by simp only; omega⟩
        ·have hNN : sh1 (rv y) (av x) = [] := by rw [hsh]; simp [h1, h2]
         simp only [hstep, ← hw', hNN]
         simp
        ·exact hwz _ _ h
     ·have hkk : k = l.length := by omega
      rw [hkk, List.take_length] at hw'
      have hlm' := hlm h0
      have hlen := shL_len (rv y) (vals l)
      have hvl : (vals l).length = l.length := by simp [vals]
      have hposL : Pos (shL (rv y) (vals l)) := by
       intro q hq
       unfold shL at hq
       obtain ⟨a, _, ha⟩ := List.mem_flatMap.1 hq
       exact sh1_pos _ _ q ha
      have hposA : PosA ((shL (rv y) (vals l)).map acan) := by
       intro z hz
       obtain ⟨q, hq, rfl⟩ := List.mem_map.1 hz
       have := hposL q hq
       simpa [acan, rv_rcan] using this
      have hfin : K (AV.tup [AV.one (C.slice ((if 64 < ((nrm (vals ((shL (rv y) (vals l)).map acan))).map acan).length then [] else (nrm (vals ((shL (rv y) (vals l)).map acan))).map acan).map aC)), errV tE (if 64 < ((nrm (vals ((shL (rv y) (vals l)).map acan))).map acan).length then 4 else 0)]) := by
       have e1 : shOut l y = lim64 (nrm (shL (rv y) (vals l))) := by unfold shOut; rw [if_pos ⟨h0, hvy⟩]
       have e2 : shCode l y = code64 (nrm (shL (rv y) (vals l))) := by unfold shCode; rw [if_pos h0, if_pos hvy]
       rw [e1, e2] at hK
       rw [vals_can, List.length_map]
       unfold lim64 code64 at hK
       split
       ·rename_i h; rw [if_pos h, if_pos h] at hK; exact hK
       ·rename_i h; rw [if_neg h, if_neg h] at hK; exact hK
      match w, hw', hwz with
      | none, hw', hwz =>
       simp only [go_sem, ha, hw, hs, ho, hg, hc', hn, hl, errV_0, hy, hyl', hlt]
       have := hfin
       simp only [Option.map_none, Option.getD_none] at hw'
       rw [← hw'] at this
       simp only [List.length_map, List.map_nil] at this
       refine ⟨by omega, fun z hz => by simp at hz, fun z hz => by simp at hz, (fun z hz => by obtain ⟨q, _, rfl⟩ := List.mem_map.1 hz; exact WLA_can q), this⟩
      | some (false, L), hw', hwz =>
       simp only [go_sem, ha, hw, hs, ho, hg, hc', hn, hl, errV_0, hy, hyl', hlt]
       have := hfin
       simp only [Option.map_some, Option.getD_some] at hw'
       rw [← hw'] at this hposA hlen
       simp only [List.length_map] at this
       exact ⟨(fun z hz => by obtain ⟨q, _, rfl⟩ := List.mem_map.1 hz; exact WLA_can q), by omega, okAs_mono (hwz _ _ rfl) (by decide), hposA, (fun z hz => by obtain ⟨q, _, rfl⟩ := List.mem_map.1 hz; exact WLA_can q), this⟩
      | some (true, L), hw', hwz =>
       simp only [go_sem, ha, hw, hs, ho, hg, hc', hn, hl, errV_0, hy, hyl', hlt]
       have := hfin
       simp only [Option.map_some, Option.getD_some] at hw'
       rw [← hw'] at this hposA hlen
       simp only [List.length_map] at this
       exact ⟨(fun z hz => by obtain ⟨q, _, rfl⟩ := List.mem_map.1 hz; exact WLA_can q), by omega, okAs_mono (hwz _ _ rfl) (by decide), hposA, (fun z hz => by obtain ⟨q, _, rfl⟩ := List.mem_map.1 hz; exact WLA_can q), this⟩
  ·simp only [shOut, shCode, h0, errV_s tE h0] at hK
   simp only [go_sem, ac_chart_Shift, hk, h0, errV_s tE h0]
   refine ⟨hwl, fun x hx => by rw [List.mem_singleton] at hx; subst hx; exact hokb, ?_⟩
   simp only [false_and, if_false, List.map_nil, errV_s tE h0] at hK
   exact hK
end Go.Abs
end
section
set_option linter.unusedVariables false
namespace Go.Num
theorem swStep_len (w : Sw) (a : Q2) : (swOut (swStep w a)).length ≤ (swOut w).length + 1 := by
 match w with
 | none => simp [swStep, swOut]
 | some (o, z) => simp only [swStep]; split <;> simp [swOut]
theorem fold_len : ∀ (l : List Q2) (w : Sw), (swOut (l.foldl swStep w)).length ≤ (swOut w).length + l.length
 | [], w => by simp
 | a :: l, w => by
  have h1 := fold_len l (swStep w a)
  have h2 := swStep_len w a
  simp only [List.foldl_cons, List.length_cons]
  omega
theorem nrm_len (l : List Q2) : (nrm l).length ≤ l.length := by
 have := fold_len (l.mergeSort fun a b => decide (a.1 ≤ b.1)) none
 simpa [nrm, sweep, swOut] using this
def In01 (l : List Q2) : Prop := ∀ a ∈ l, 0 ≤ a.1 ∧ a.2 ≤ 1
theorem in01_mem {l : List Q2} (h : In01 l) {x : Rat} (hx : memL x l) : 0 ≤ x ∧ x < 1 := by
 obtain ⟨a, ha, h1, h2⟩ := hx
 obtain ⟨h3, h4⟩ := h a ha
 exact ⟨by grind, by grind⟩
theorem in01_of {l : List Q2} (hp : Pos l) (h : ∀ x, memL x l → 0 ≤ x ∧ x < 1) : In01 l := by
 intro a ha
 have h0 := hp a ha
 refine ⟨(h a.1 ⟨a, ha, Rat.le_refl, h0⟩).1, ?_⟩
 refine Rat.not_lt.1 fun h1 => ?_
 by_cases h2 : a.1 ≤ 1
 ·have := (h 1 ⟨a, ha, h2, h1⟩).2
  exact absurd this (by decide)
 ·have h3 := (h a.1 ⟨a, ha, Rat.le_refl, h0⟩).2
  exact h2 (Rat.le_of_lt h3)
theorem nrm_in {l : List Q2} (hp : Pos l) (h : In01 l) : In01 (nrm l) := by
 obtain ⟨k1, k2, k3⟩ := nrm_ok hp
 exact in01_of k1 fun x hx => in01_mem h ((k3 x).1 hx)
theorem nrm_eq {l m : List Q2} (hp : Pos l) (hm : Pos m) (ha : Apart m) (he : ∀ x, memL x l ↔ memL x m) : nrm l = m := by
 obtain ⟨k1, k2, k3⟩ := nrm_ok hp
 exact chart_ext k1 k2 hm ha fun x => (k3 x).trans (he x)
theorem nrm_nrm {l : List Q2} (hp : Pos l) : nrm (nrm l) = nrm l := by
 obtain ⟨k1, k2, k3⟩ := nrm_ok hp
 exact nrm_eq k1 k1 k2 fun x => Iff.rfl
theorem nrm_eq_iff {l m : List Q2} (hp : Pos l) (hm : Pos m) : nrm l = nrm m ↔ ∀ x, memL x l ↔ memL x m := by
 obtain ⟨k1, k2, k3⟩ := nrm_ok hp
 obtain ⟨j1, j2, j3⟩ := nrm_ok hm
 constructor
 ·intro h x
  rw [← k3 x, h, j3 x]
 ·intro h
  exact chart_ext k1 k2 j1 j2 fun x => (k3 x).trans ((h x).trans (j3 x).symm)
theorem max_le_mark : ∀ (M : List Rat) (x : Rat), (∃ m ∈ M, m ≤ x) → ∃ m ∈ M, m ≤ x ∧ ∀ k ∈ M, k ≤ x → k ≤ m
 | [], x, h => by obtain ⟨m, hm, _⟩ := h; simp at hm
 | a :: M, x, h => by
  by_cases hM : ∃ m ∈ M, m ≤ x
  ·obtain ⟨m, hm, hx, hk⟩ := max_le_mark M x hM
   by_cases ha : a ≤ x
   ·by_cases hma : m ≤ a
    ·refine ⟨a, by simp, ha, fun k hk1 hk2 => ?_⟩
     rcases List.mem_cons.1 hk1 with rfl | hk1
     ·exact Rat.le_refl
     ·exact Rat.le_trans (hk k hk1 hk2) hma
    ·refine ⟨m, by simp [hm], hx, fun k hk1 hk2 => ?_⟩
     rcases List.mem_cons.1 hk1 with rfl | hk1
     ·exact Rat.le_of_lt (Rat.not_le.1 hma)
     ·exact hk k hk1 hk2
   ·refine ⟨m, by simp [hm], hx, fun k hk1 hk2 => ?_⟩
    rcases List.mem_cons.1 hk1 with rfl | hk1
    ·exact absurd hk2 ha
    ·exact hk k hk1 hk2
  ·obtain ⟨m, hm, hx⟩ := h
   rcases List.mem_cons.1 hm with rfl | hm
   ·refine ⟨m, by simp, hx, fun k hk1 hk2 => ?_⟩
    rcases List.mem_cons.1 hk1 with rfl | hk1
    ·exact Rat.le_refl
    ·exact absurd ⟨k, hk1, hk2⟩ hM
   ·exact absurd ⟨m, hm, hx⟩ hM
theorem mark_same {M : List Rat} {l : List Q2} {m x : Rat} (hf : ∀ a ∈ l, a.1 ∈ M) (ht : ∀ a ∈ l, a.2 ≤ x → a.2 ∈ M) (hmx : m ≤ x) (hm : ∀ k ∈ M, k ≤ x → k ≤ m) : memL m l ↔ memL x l := by
 constructor
 ·rintro ⟨a, ha, h1, h2⟩
  refine ⟨a, ha, Rat.le_trans h1 hmx, Rat.not_le.1 fun h => ?_⟩
  have := hm _ (ht a ha h) h
  grind
 ·rintro ⟨a, ha, h1, h2⟩
  exact ⟨a, ha, hm _ (hf a ha) h1, by grind⟩
theorem marks_tell {M : List Rat} {l m : List Q2} (hf : ∀ a ∈ l, a.1 ∈ M) (ht : ∀ a ∈ l, a.2 < 1 → a.2 ∈ M) (hf' : ∀ a ∈ m, a.1 ∈ M) (ht' : ∀ a ∈ m, a.2 < 1 → a.2 ∈ M)
  (hl : In01 l) (hm : In01 m) (he : ∀ k ∈ M, memL k l ↔ memL k m) (x : Rat) : memL x l ↔ memL x m := by
 by_cases hx : x < 1
 ·by_cases h : ∃ k ∈ M, k ≤ x
  ·obtain ⟨k, hk, hkx, hmax⟩ := max_le_mark M x h
   rw [← mark_same hf (fun a ha h => ht a ha (by grind)) hkx hmax, ← mark_same hf' (fun a ha h => ht' a ha (by grind)) hkx hmax]
   exact he k hk
  ·constructor
   ·rintro ⟨a, ha, h1, h2⟩; exact absurd ⟨a.1, hf a ha, h1⟩ h
   ·rintro ⟨a, ha, h1, h2⟩; exact absurd ⟨a.1, hf' a ha, h1⟩ h
 ·constructor
  ·intro h; exact absurd (in01_mem hl h).2 hx
  ·intro h; exact absurd (in01_mem hm h).2 hx
end Go.Num
end
section
set_option linter.unusedVariables false
set_option linter.unusedSimpArgs false
set_option maxRecDepth 100000
namespace Go.Num
theorem awake_n : nrm [(Rat.divInt 1 2, Rat.divInt 3 4), (Rat.divInt 1 4, Rat.divInt 1 2)] = [(Rat.divInt 1 4, Rat.divInt 3 4)] := by
 have h := sweep_eq (l := [(Rat.divInt 1 2, Rat.divInt 3 4), (Rat.divInt 1 4, Rat.divInt 1 2)]) (s := [(Rat.divInt 1 4, Rat.divInt 1 2), (Rat.divInt 1 2, Rat.divInt 3 4)])
  (by unfold Pos; decide +kernel) (List.Perm.swap _ _ _) (by unfold SortQ; decide +kernel)
 rw [← h]
 decide +kernel
theorem awake_sh : shL (Rat.divInt 1 2) [(Rat.divInt 1 2, Rat.divInt 3 4), (Rat.divInt 1 4, Rat.divInt 1 2)] = [(0, Rat.divInt 1 4), (Rat.divInt 3 4, 1)] := by decide +kernel
theorem awake_s : nrm [(0, Rat.divInt 1 4), (Rat.divInt 3 4, 1)] = [(0, Rat.divInt 1 4), (Rat.divInt 3 4, 1)] := by
 have h := sweep_eq (l := [(0, Rat.divInt 1 4), (Rat.divInt 3 4, 1)]) (s := [(0, Rat.divInt 1 4), (Rat.divInt 3 4, 1)])
  (by unfold Pos; decide +kernel) (List.Perm.refl _) (by unfold SortQ; decide +kernel)
 rw [← h]
 decide +kernel
def ValQ (l : List Q2) : Prop := Pos l ∧ In01 l
theorem badA_can {q : Q2} (h : 0 ≤ q.1 ∧ q.2 ≤ 1 ∧ q.1 < q.2) : badA (acan q) = false :=
 badA_f.2 ⟨vld_rcan _, vld_rcan _, by simp only [acan, rv_rcan]; exact h.1, by simp only [acan, rv_rcan]; exact h.2.1, by simp only [acan, rv_rcan]; exact h.2.2⟩
theorem chk_can {l : List Q2} (hl : l.length ≤ 64) (hp : Pos l) (hi : In01 l) : chk [l.map acan] = 0 := by
 rw [chk_1]
 unfold chk1
 rw [if_neg (by simp; omega), if_neg]
 intro h
 obtain ⟨x, hx, hb⟩ := List.any_eq_true.1 h
 obtain ⟨q, hq, rfl⟩ := List.mem_map.1 hx
 rw [badA_can ⟨(hi q hq).1, (hi q hq).2, hp q hq⟩] at hb
 exact absurd hb (by simp)
theorem WLA_cans (l : List Q2) : ∀ z ∈ l.map acan, WLA z := fun z hz => by
 obtain ⟨q, _, rfl⟩ := List.mem_map.1 hz
 exact WLA_can q
theorem okAs_can {b : Nat} {l : List Q2} (h : ∀ q ∈ l, rz q.1 ≤ b ∧ rz q.2 ≤ b) : okAs b (l.map acan) := fun z hz => by
 obtain ⟨q, hq, rfl⟩ := List.mem_map.1 hz
 exact okA_can (h q hq).1 (h q hq).2
end Go.Num
namespace Go.Abs
open Go.Num
variable {P : Program} {Γ : Nat → Spec}
theorem onAs_1 (k : List Arc → Prop) (x y : R) : onAs k (.one (.slice [[cb x, cn x, cd x, cb y, cn y, cd y]])) = ((∀ z ∈ [(x, y)], WLA z) ∧ k [(x, y)]) := onAs_e k [(x, y)]
theorem onAs_2 (k : List Arc → Prop) (x y x' y' : R) : onAs k (.one (.slice [[cb x, cn x, cd x, cb y, cn y, cd y], [cb x', cn x', cd x', cb y', cn y', cd y']])) = ((∀ z ∈ [(x, y), (x', y')], WLA z) ∧ k [(x, y), (x', y')]) := onAs_e k [(x, y), (x', y')]
theorem onAs_x1 (k : List Arc → Prop) (x : Arc) : onAs k (.one (.slice [aC x])) = ((∀ z ∈ [x], WLA z) ∧ k [x]) := onAs_e k [x]
theorem onAs_x2 (k : List Arc → Prop) (x y : Arc) : onAs k (.one (.slice [aC x, aC y])) = ((∀ z ∈ [x, y], WLA z) ∧ k [x, y]) := onAs_e k [x, y]
theorem onAs_z2 (k : List Arc → Prop) (y x' y' : R) : onAs k (.one (.slice [[.lit (.bool false), .slice [], .slice [], cb y, cn y, cd y], [cb x', cn x', cd x', cb y', cn y', cd y']])) = ((∀ z ∈ [(rcan 0, y), (x', y')], WLA z) ∧ k [(rcan 0, y), (x', y')]) := by
 rw [rcan_zero]; exact onAs_e k [((false, [], []), y), (x', y')]
attribute [go_sem] onAs_1 onAs_2 onAs_x1 onAs_x2 onAs_z2
attribute [go_sem ↓] onAs_1 onAs_2 onAs_x1 onAs_x2 onAs_z2
def lawake_G (l : List AV) (K : AV → Prop) : Prop :=
 match l with
 | [] => K (.one (.lit (.bool true)))
 | _ => False
theorem lawake_Ge (K : AV → Prop) : lawake_G [] K = (K (.one (.lit (.bool true)))) := propext Iff.rfl
@[congr] theorem lawake_Gc {K : AV → Prop} {l l' : List AV} (h : l = l') : lawake_G l K = lawake_G l' K := by subst h; rfl
attribute [go_sem] lawake_Ge
attribute [go_sem ↓] lawake_Ge
theorem lawake_good : Good lawake_G := good_of fun as => by
 unfold lawake_G
 split
 ·exact (.ret _)
 ·exact .of fun K hk => hk.elim
def ac_linkworklaw54_awake (f0 f1 f2 f3 : Nat) : AC := (.seq (.ops false [.m 0 .fa])
 (.fg [] (.seq (.ops false [.u 6 (.call f0 [(.i 1), (.i 2)]), .u 7 (.call f0 [(.i 3), (.i 4)]), .u 8 (.build [.x 3 (.t 6), .x 3 (.t 7)]), .u 9 (.call f0 [(.i 1), (.i 4)]), .u 10 (.call f0 [(.i 1), (.i 2)]), .u 11 (.build [.x 3 (.t 9), .x 3 (.t 10)]), .u 12 (.row 6 [[.x 6 (.t 8)], [.x 6 (.t 11)]]), .m 1 (.t 12)])
 (.fg [1] (.seq (.ops false [.m 14 (.t 1), .u 15 (.call f1 [(.t 14)]), .m 13 (.t 15), .u 16 (.ext 0 (.t 13)), .u 17 (.ext 1 (.t 13)), .m 2 (.t 16), .m 3 (.t 17)])
 (.fg [1, 2, 3] (.seq (.ops false [.m 19 (.t 1), .u 20 (.call f0 [(.i 1), (.i 2)]), .u 21 (.call f2 [(.t 19), (.t 20)]), .m 18 (.t 21), .u 22 (.ext 0 (.t 18)), .u 23 (.ext 1 (.t 18)), .m 4 (.t 22), .m 5 (.t 23)])
 (.fg [2, 3, 4, 5] (.seq (.ops false [.m 24 (.t 3), .u 25 (.binn .eql (.t 24) (.c (.one (.lit .nilIface)))), .m 26 (.t 25), .w 27 26 true (.mv (.t 5)), .w 28 26 true (.binn .eql (.t 27) (.c (.one (.lit .nilIface)))), .u 29 (.pick (.t 26) (.t 28) .fa), .m 30 (.t 29), .w 31 30 true (.mv (.t 2)), .w 32 30 true (.call f0 [(.i 1), (.i 4)]), .w 33 30 true (.call f0 [(.i 3), (.i 4)]), .w 34 30 true (.build [.x 3 (.t 32), .x 3 (.t 33)]), .w 35 30 true (.row 6 [[.x 6 (.t 34)]]), .w 36 30 true (.call f3 [(.t 31), (.t 35)]), .u 37 (.pick (.t 30) (.t 36) .fa), .m 38 (.t 37), .w 39 38 true (.mv (.t 4)), .w 40 38 true (.call f0 [(.i 1), (.i 4)]), .w 41 38 true (.build [.z [(.lit (.bool false)), .emp, .emp], .x 3 (.t 40)]), .w 42 38 true (.call f0 [(.i 3), (.i 4)]), .w 43 38 true (.call f0 [(.i 1), (.i 1)]), .w 44 38 true (.build [.x 3 (.t 42), .x 3 (.t 43)]), .w 45 38 true (.row 6 [[.x 6 (.t 41)], [.x 6 (.t 44)]]), .w 46 38 true (.call f3 [(.t 39), (.t 45)]), .u 47 (.pick (.t 38) (.t 46) .fa), .m 0 (.t 47)])
 .ret)))))))))
theorem lawake_sound (hΓ : Holds P Γ) {f fp fn fs fe tE m m' : Nat} (hm : 2 ≤ m) (hm' : 4 ≤ m') (hp : Γ fp = .dat false rpart_G) (hn : Γ fn = .dat false (cNorm_G tE m)) (hs : Γ fs = .dat false (cShift_G tE m')) (he : Γ fe = .dat true rsame_G) (hc : check P f = some (48, (ac_linkworklaw54_awake fp fn fs fe).strip, [.tmp 0])) : Sound P f (.dat true lawake_G) := by
 refine sound_dat hc lawake_good hΓ (fun args K hcl hfi hG => ?_)
 match args, hG with
 | [], hK =>
  simp only [lawake_G] at hK
  refine ⟨by simp, ?_⟩
  obtain ⟨A, hA⟩ : ∃ A, A = [(rcan (Rat.divInt 1 2), rcan (Rat.divInt 3 4)), (rcan (Rat.divInt 1 4), rcan (Rat.divInt 1 2))] := ⟨_, rfl⟩
  have hv : vals A = [(Rat.divInt 1 2, Rat.divInt 3 4), (Rat.divInt 1 4, Rat.divInt 1 2)] := by rw [hA]; simp [vals, av, rv_rcan]
  have hAc : A = [(Rat.divInt 1 2, Rat.divInt 3 4), (Rat.divInt 1 4, Rat.divInt 1 2)].map acan := by rw [hA]; rfl
  have hk : chk [A] = 0 := by rw [hAc]; exact chk_can (by decide) (by unfold Pos; decide +kernel) (by unfold In01; decide +kernel)
  have hw : ∀ z ∈ A, WLA z := by
   rw [hAc]; intro z hz
   obtain ⟨q, _, rfl⟩ := List.mem_map.1 hz
   exact WLA_can q
  have hz : ∀ q ∈ [Rat.divInt 1 2, Rat.divInt 3 4, Rat.divInt 1 4, 1, 0], rz q ≤ 1000000 := by
   have h2 : ∀ n : Int, n.natAbs ≤ 4 → zs n ≤ 2 := fun n hn => zs_of (by omega)
   intro q hq
   refine Nat.le_trans (rz_le (s := 2) (h2 _ ?_) (h2 _ ?_)) (by decide) <;> revert q <;> decide +kernel
  have ho : okAs 10000000 A := by
   rw [hA]; intro z hz'
   simp only [List.mem_cons, List.not_mem_nil, or_false] at hz'
   rcases hz' with rfl | rfl
   ·exact ⟨⟨WLR_rcan _, WLR_rcan _⟩, Nat.max_le.2 ⟨Nat.le_trans (hz _ (by simp)) (by decide), Nat.le_trans (hz _ (by simp)) (by decide)⟩⟩
   ·exact ⟨⟨WLR_rcan _, WLR_rcan _⟩, Nat.max_le.2 ⟨Nat.le_trans (hz _ (by simp)) (by decide), Nat.le_trans (hz _ (by simp)) (by decide)⟩⟩
  have hs1 : shOut A (rcan (Rat.divInt 1 2)) = [(0, Rat.divInt 1 4), (Rat.divInt 3 4, 1)] := by
   unfold shOut
   rw [if_pos ⟨hk, vld_rcan _⟩, rv_rcan, hv, awake_sh, awake_s]; rfl
  have hs2 : shCode A (rcan (Rat.divInt 1 2)) = 0 := by
   unfold shCode
   rw [if_pos hk, if_pos (vld_rcan _), rv_rcan, hv, awake_sh, awake_s]; rfl
  simp only [go_sem, ac_linkworklaw54_awake, hp, hn, hs, he, ← hA, hk, hv, hs1, hs2, errV_0, awake_n]
  have hl : A.length = 2 := by rw [hA]; rfl
  have ho2 : okAs 4294967296 A := okAs_mono ho (by decide)
  have hz' : ∀ q ∈ [Rat.divInt 1 2, Rat.divInt 3 4, Rat.divInt 1 4, 1, 0], rz q ≤ 1073741824 := fun q hq => Nat.le_trans (hz q hq) (by decide)
  have e1 : vals [(rcan (Rat.divInt 1 4), rcan (Rat.divInt 3 4))] = [(Rat.divInt 1 4, Rat.divInt 3 4)] := vals_can [(Rat.divInt 1 4, Rat.divInt 3 4)]
  have e2 : vals [acan (Rat.divInt 1 4, Rat.divInt 3 4)] = [(Rat.divInt 1 4, Rat.divInt 3 4)] := vals_can [(Rat.divInt 1 4, Rat.divInt 3 4)]
  have e3 : vals [acan (0, Rat.divInt 1 4), acan (Rat.divInt 3 4, 1)] = [(0, Rat.divInt 1 4), (Rat.divInt 3 4, 1)] := vals_can [(0, Rat.divInt 1 4), (Rat.divInt 3 4, 1)]
  have e5 : Rat.divInt 1 1 = 1 := by decide +kernel
  have e4 : vals [(rcan 0, rcan (Rat.divInt 1 4)), (rcan (Rat.divInt 3 4), rcan (Rat.divInt 1 1))] = [(0, Rat.divInt 1 4), (Rat.divInt 3 4, 1)] := by rw [e5]; exact vals_can [(0, Rat.divInt 1 4), (Rat.divInt 3 4, 1)]
  have w1 := WLA_cans [(Rat.divInt 1 4, Rat.divInt 3 4)]
  have w2 := WLA_cans [(0, Rat.divInt 1 4), (Rat.divInt 3 4, 1)]
  have o1 : okAs 1073741824 ([(Rat.divInt 1 4, Rat.divInt 3 4)].map acan) := okAs_can (by intro q hq; rw [List.mem_singleton] at hq; subst hq; exact ⟨hz' _ (by simp), hz' _ (by simp)⟩)
  have o2 : okAs 1073741824 ([(0, Rat.divInt 1 4), (Rat.divInt 3 4, 1)].map acan) := okAs_can (by
   intro q hq
   simp only [List.mem_cons, List.not_mem_nil, or_false] at hq
   rcases hq with rfl | rfl <;> exact ⟨hz' _ (by simp), hz' _ (by simp)⟩)
  rw [e1, e2, e3, e4, hl, e5, decide_eq_true rfl]
  refine ⟨by omega, by omega, by omega, by omega, by omega, by omega, by omega, by omega, by omega, by omega, by omega, by omega, hw, hm, ho2, by omega, by omega, by omega, hw, by omega, ho, Nat.le_trans (hz _ (by simp)) (by decide), by omega, by omega, by omega, by omega, by omega, by omega,
   w1, w1, o1, o1, fun _ => ⟨by omega, by omega, by omega, by omega, by omega, by omega, by omega, by omega, by omega, w2, w2, o2, o2, hK⟩, fun h => absurd rfl h⟩
end Go.Abs
end
section
set_option linter.unusedVariables false
namespace Go.Num
theorem floor_01 {q : Rat} (h0 : 0 ≤ q) (h1 : q < 1) : q.floor = 0 := by
 have a : (0 : Int) ≤ q.floor := Rat.le_floor_iff.2 h0
 have b : q.floor < 1 := Rat.floor_lt_iff.2 h1
 omega
theorem frac_01 {q : Rat} (h0 : 0 ≤ q) (h1 : q < 1) : frac q = q := by
 unfold frac; rw [floor_01 h0 h1]
 show q - 0 = q
 grind
theorem frac_ge (q : Rat) : 0 ≤ frac q := by
 unfold frac
 have := Rat.floor_le q
 grind
theorem frac_lt (q : Rat) : frac q < 1 := by
 unfold frac
 have := Rat.lt_floor (x := q)
 grind
theorem frac_frac (q : Rat) : frac (frac q) = frac q := frac_01 (frac_ge q) (frac_lt q)
theorem frac_int (n : Int) : frac (n : Rat) = 0 := by
 unfold frac; rw [Rat.floor_intCast]; grind
theorem frac_one : frac 1 = 0 := frac_int 1
instance (x : Rat) (a : Q2) : Decidable (mem x a) := by unfold mem; infer_instance
instance (x : Rat) (l : List Q2) : Decidable (memL x l) := by unfold memL; infer_instance
theorem any_mem (y : Rat) (l : List Arc) : l.any (inA y) = decide (memL y (vals l)) := by
 cases h : l.any (inA y) with
 | true =>
  obtain ⟨x, hx, hy⟩ := List.any_eq_true.1 h
  unfold inA at hy
  simp only [Bool.and_eq_true, decide_eq_true_eq] at hy
  exact (decide_eq_true ⟨av x, List.mem_map.2 ⟨x, hx, rfl⟩, hy.1, hy.2⟩).symm
 | false =>
  refine (decide_eq_false fun ⟨a, ha, h1, h2⟩ => ?_).symm
  obtain ⟨x, hx, rfl⟩ := List.mem_map.1 ha
  rw [List.any_eq_false] at h
  refine h x hx ?_
  unfold inA
  simp only [Bool.and_eq_true, decide_eq_true_eq]
  exact ⟨h1, h2⟩
theorem chk_good {l : List Arc} (h : chk [l] = 0) : l.length ≤ 64 ∧ ∀ x ∈ l, GoodA x :=
 ⟨(chk1_0 (chk_1 l ▸ h)).1, fun x hx => badA_f.1 ((chk1_0 (chk_1 l ▸ h)).2 x hx)⟩
theorem chk_val {l : List Arc} (h : chk [l] = 0) : Pos (vals l) ∧ In01 (vals l) := by
 obtain ⟨_, h2⟩ := chk_good h
 refine ⟨fun a ha => ?_, fun a ha => ?_⟩
 ·obtain ⟨x, hx, rfl⟩ := List.mem_map.1 ha
  exact (h2 x hx).lt
 ·obtain ⟨x, hx, rfl⟩ := List.mem_map.1 ha
  exact ⟨(h2 x hx).lo, (h2 x hx).hi⟩
def diff (l m : List Arc) (y : Rat) : Bool := l.any (inA (frac y)) != m.any (inA (frac y))
def mk1 (x : Arc) : List Rat := [rv x.1, frac (rv x.2)]
def mks (l : List Arc) : List Rat := l.flatMap mk1
theorem norms_tell {l m : List Arc} (hl : chk [l] = 0) (hm : chk [m] = 0) : (mks l ++ mks m).any (diff l m) = !decide (nrm (vals l) = nrm (vals m)) := by
 obtain ⟨pl, il⟩ := chk_val hl
 obtain ⟨pm, im⟩ := chk_val hm
 obtain ⟨_, gl⟩ := chk_good hl
 obtain ⟨_, gm⟩ := chk_good hm
 have hd : ∀ y, diff l m y = false ↔ (memL (frac y) (vals l) ↔ memL (frac y) (vals m)) := by
  intro y
  unfold diff
  rw [any_mem, any_mem]
  simp
 by_cases h : nrm (vals l) = nrm (vals m)
 ·rw [decide_eq_true h, Bool.not_true, List.any_eq_false]
  intro y _
  rw [(hd y).2 ((nrm_eq_iff pl pm).1 h (frac y))]
  simp
 ·rw [decide_eq_false h, Bool.not_false]
  cases hall : (mks l ++ mks m).any (diff l m) with
  | true => rfl
  | false =>
   exfalso
   apply h
   rw [nrm_eq_iff pl pm]
   rw [List.any_eq_false] at hall
   have key : ∀ (n : List Arc), (∀ x ∈ n, GoodA x) → (∀ a ∈ vals n, a.1 ∈ (mks n).map frac) ∧ (∀ a ∈ vals n, a.2 < 1 → a.2 ∈ (mks n).map frac) := by
    intro n hn
    refine ⟨fun a ha => ?_, fun a ha h1 => ?_⟩
    ·obtain ⟨x, hx, rfl⟩ := List.mem_map.1 ha
     have g := hn x hx
     refine List.mem_map.2 ⟨rv x.1, List.mem_flatMap.2 ⟨x, hx, by simp [mk1]⟩, frac_01 g.lo ?_⟩
     have := g.lt; have := g.hi; grind
    ·obtain ⟨x, hx, rfl⟩ := List.mem_map.1 ha
     have g := hn x hx
     have h0 : 0 ≤ rv x.2 := by have := g.lt; have := g.lo; grind
     refine List.mem_map.2 ⟨frac (rv x.2), List.mem_flatMap.2 ⟨x, hx, by simp [mk1]⟩, ?_⟩
     rw [frac_frac]
     exact frac_01 h0 h1
   obtain ⟨l1, l2⟩ := key l gl
   obtain ⟨m1, m2⟩ := key m gm
   refine fun x => marks_tell (M := (mks l ++ mks m).map frac) ?_ ?_ ?_ ?_ il im ?_ x
   ·intro a ha; rw [List.map_append]; exact List.mem_append.2 (.inl (l1 a ha))
   ·intro a ha h; rw [List.map_append]; exact List.mem_append.2 (.inl (l2 a ha h))
   ·intro a ha; rw [List.map_append]; exact List.mem_append.2 (.inr (m1 a ha))
   ·intro a ha h; rw [List.map_append]; exact List.mem_append.2 (.inr (m2 a ha h))
   ·intro k hk
    obtain ⟨y, hy, rfl⟩ := List.mem_map.1 hk
    have := hall y hy
    exact (hd y).1 (by simpa using this)
def endsIn (l p : List Q2) : Prop := ∀ q ∈ l, (∃ a ∈ p, q.1 = a.1) ∧ ∃ a ∈ p, q.2 = a.2
theorem swStep_ends {w : Sw} {a : Q2} {p : List Q2} (h : endsIn (swOut w) p) (ha : a ∈ p) : endsIn (swOut (swStep w a)) p := by
 match w, h with
 | none, h =>
  intro q hq
  simp [swStep, swOut] at hq
  subst hq
  exact ⟨⟨q, ha, rfl⟩, ⟨q, ha, rfl⟩⟩
 | some (o, z), h =>
  simp only [swStep]
  have hz := h z (by simp [swOut])
  split
  ·intro q hq
   simp only [swOut, List.mem_append, List.mem_singleton] at hq
   rcases hq with hq | rfl
   ·exact h q (by simp [swOut, hq])
   ·refine ⟨hz.1, ?_⟩
    simp only [mxQ]
    split
    ·exact hz.2
    ·exact ⟨a, ha, rfl⟩
  ·intro q hq
   simp only [swOut, List.mem_append, List.mem_singleton] at hq
   rcases hq with hq | rfl
   ·exact h q (by simpa [swOut] using hq)
   ·exact ⟨⟨q, ha, rfl⟩, ⟨q, ha, rfl⟩⟩
theorem fold_ends {p : List Q2} : ∀ (l : List Q2) (w : Sw), endsIn (swOut w) p → (∀ a ∈ l, a ∈ p) → endsIn (swOut (l.foldl swStep w)) p
 | [], w, h, _ => h
 | a :: l, w, h, hl => fold_ends l _ (swStep_ends h (hl a (by simp))) fun b hb => hl b (by simp [hb])
theorem nrm_ends (l : List Q2) : endsIn (nrm l) l :=
 fold_ends (p := l) _ none (fun q hq => by simp [swOut] at hq) fun a ha => (List.mergeSort_perm l _).mem_iff.1 ha
def rzQ (b : Nat) (l : List Q2) : Prop := ∀ q ∈ l, rz q.1 ≤ b ∧ rz q.2 ≤ b
theorem rzQ_vals {b : Nat} {l : List Arc} (h : okAs b l) : rzQ b (vals l) := fun q hq => by
 obtain ⟨x, hx, rfl⟩ := List.mem_map.1 hq
 have := h x hx
 exact ⟨Nat.le_trans (rz_rv this.1.1) (Nat.le_trans (Nat.le_max_left _ _) this.2), Nat.le_trans (rz_rv this.1.2) (Nat.le_trans (Nat.le_max_right _ _) this.2)⟩
theorem rzQ_nrm {b : Nat} {l : List Q2} (h : rzQ b l) : rzQ b (nrm l) := fun q hq => by
 obtain ⟨⟨a, ha, e1⟩, ⟨c, hc, e2⟩⟩ := nrm_ends l q hq
 rw [e1, e2]
 exact ⟨(h a ha).1, (h c hc).2⟩
theorem okAs_nrm {b : Nat} {l : List Arc} (h : okAs b l) : okAs b ((nrm (vals l)).map acan) := okAs_can (rzQ_nrm (rzQ_vals h))
theorem chk_nrm {l : List Arc} (h : chk [l] = 0) : chk [(nrm (vals l)).map acan] = 0 := by
 obtain ⟨p, i⟩ := chk_val h
 refine chk_can ?_ (nrm_ok p).1 (nrm_in p i)
 have := nrm_len (vals l)
 have := (chk_good h).1
 simp only [vals, List.length_map] at *
 omega
theorem validL_t {l : List Arc} (h : validL l = true) : chk [l] = 0 ∧ l.length ≤ 20 := by
 unfold validL at h
 simp only [Bool.and_eq_true, Bool.not_eq_true', decide_eq_true_eq] at h
 obtain ⟨h1, h2⟩ := h
 refine ⟨by rw [chk_1]; exact h2, ?_⟩
 refine Nat.le_of_not_lt fun h20 => ?_
 have h64 := (chk1_0 h2).1
 unfold largeL at h1
 rw [if_pos h20, decide_eq_true h64] at h1
 simp at h1
end Go.Num
end
