/-
  Parts of the proof, merged: ChartU.
-/
import Derived.Test.YtmhnmddljmllpaaGreatM6
set_option linter.unusedVariables false
set_option linter.unusedSimpArgs false
section
set_option linter.unusedVariables false
set_option linter.unusedSimpArgs false
set_option maxRecDepth 100000
namespace Go.Num
def Pcs (k : Nat) (Ls : List (List Arc)) : Prop := ∀ c ∈ Ls, c.length = k ∧ SortA c
theorem pcs_len {k : Nat} : ∀ {Ls : List (List Arc)}, Pcs k Ls → Ls.flatten.length = k * Ls.length
 | [], _ => by simp
 | c :: Ls, h => by
  have := pcs_len (Ls := Ls) fun d hd => h d (by simp [hd])
  have hc := (h c (by simp)).1
  rw [List.flatten_cons, List.length_append, this, hc, List.length_cons, Nat.mul_succ, Nat.add_comm]
theorem pcs_snoc {k : Nat} {Ls : List (List Arc)} {c : List Arc} (h : Pcs k Ls) (h1 : c.length = k) (h2 : SortA c) : Pcs k (Ls ++ [c]) := by
 intro d hd
 rcases List.mem_append.1 hd with hd | hd
 ·exact h d hd
 ·rw [List.mem_singleton] at hd; subst hd; exact ⟨h1, h2⟩
theorem okAs_flat {b : Nat} {Ls : List (List Arc)} (h : okAs b Ls.flatten) {c : List Arc} (hc : c ∈ Ls) : okAs b c := fun x hx => h x (List.mem_flatten.2 ⟨c, hc, hx⟩)
end Go.Num
namespace Go.Abs
open Go.Num
variable {P : Program} {Γ : Nat → Spec}
set_option maxHeartbeats 4000000 in
theorem stab_sound (hΓ : Holds P Γ) {f fi fm fc m N : Nat} (hmN : m ≤ N) (hm30 : m ≤ 1073741824) (hi : Γ fi = .own (ins_G fc)) (hg : Γ fm = .own (mrg_G fc N)) (hc : check P f = some (63, (ac_slices_stableCmpFunc_g fi fm).strip, [])) : Sound P f (.own (stab_G fc m)) := by
 refine sound_own hc hΓ (fun d args h K hG => ?_)
 unfold stab_G at hG
 split at hG
 case h_2 => exact hG.elim
 rename_i r ver len n c
 obtain ⟨rfl, l, post, rfl, rfl, hlen, hr, hok, hK⟩ := hG
 refine ⟨[r], [⟨(l ++ post).map aC, 6, true⟩], [.one (.own 1048576 ver 6 0 l.length), .one (.lit (.int .i64 l.length)), fnV fc], by simp, rfl, ?_, ?_, ?_, fun hfi => ⟨by simp, ?_⟩⟩
 ·intro i r' b h1 h2
  cases i with
  | zero => simp only [List.getElem?_cons_zero, Option.some.injEq] at h1 h2; subst h1 h2; exact ⟨by rw [hr], rfl, of_eq_true (clean_as _)⟩
  | succ i => simp at h1
 ·simp [exA, exC, exB, nameOf, pinA, fnV]
 ·intro a ha
  simp only [List.mem_cons, List.not_mem_nil, or_false] at ha
  rcases ha with rfl | rfl | rfl
  ·simp [pasA, pasC, pasB, nameOf, pinA]
  ·exact .lit _
  ·exact .lit _
 simp only [go_sem, ac_slices_stableCmpFunc_g, hr, fnV, hi, hg]
 refine wpA_loop (fun p : List (List Arc) × List Arc => ⟨mkV [(0, .one (.own 1048576 ver 6 0 l.length)), (1, .one (.lit (.int .i64 l.length))), (2, .one (.lit (.func (.func fc) ⟨[]⟩ ⟨[]⟩))), (6, .one (.lit (.int .i64 20))), (7, .one (.lit (.int .i64 (20 * p.1.length : Nat)))), (8, .one (.lit (.int .i64 (20 * p.1.length + 20 : Nat))))], mkH [(1048576, ⟨ver, some ⟨(p.1.flatten ++ p.2 ++ post).map aC, 6, true⟩⟩)]⟩)
  (fun p => Pcs 20 p.1 ∧ l.Perm (p.1.flatten ++ p.2)) (fun p => p.2.length) ([], l) ?_ ?_ ?_
 ·exact weak_lit (by simp [okS, okV, okC, okL, okH, okB, okE, mkV_cons, mkV_nil, mkH_cons, mkH_nil, wsA, ws]) (okH_a (by simp))
 ·exact ⟨fun c hc => by simp at hc, by simp⟩
 ·rintro ⟨Ls, R⟩ ⟨hL, hp⟩
  simp only at hL hp
  have lL := pcs_len hL
  have hpl := hp.length_eq
  rw [List.length_append, lL] at hpl
  have hokp := okAs_perm hp hok
  obtain ⟨hokL, hokR⟩ := okAs_append.1 hokp
  by_cases hR : 20 ≤ R.length
  ·have hle : ((20 * Ls.length + 20 : Nat) : Int) ≤ (l.length : Int) := by omega
   obtain ⟨S, R', rfl, hS⟩ : ∃ S R', R = S ++ R' ∧ S.length = 20 := ⟨R.take 20, R.drop 20, (List.take_append_drop _ _).symm, by rw [List.length_take]; omega⟩
   rw [List.length_append] at hpl
   simp only [go_sem, hr, hi, hg, hle]
   simp only [ins_G]
   refine ⟨Ls.flatten, S, R' ++ post, rfl, by rw [lL], by rw [lL, hS], by rw [lL, hS, List.length_append]; omega, by omega, by omega, by simp [mkH_cons], (okAs_append.1 hokR).1, fun S' hpS hS' => ?_⟩
   have lS' := hpS.length_eq
   simp only [go_sem, hr, hi, hg]
   refine ⟨by omega, (Ls ++ [S'], R'), weak_lit (by simp [okS, okV, okC, okL, okH, okB, okE, mkV_cons, mkV_nil, mkH_cons, mkH_nil, wsA, ws]; omega) (okH_a (by simp)), ⟨pcs_snoc hL (by omega) hS', ?_⟩, by simp only; rw [List.length_append]; omega⟩
   simp only
   refine hp.trans ?_
   simp only [List.flatten_append, List.flatten_cons, List.flatten_nil, List.append_nil, List.append_assoc]
   exact List.Perm.append_left _ (List.Perm.append_right _ hpS)
  ·have hle : ¬ ((20 * Ls.length + 20 : Nat) : Int) ≤ (l.length : Int) := by omega
   simp only [go_sem, hr, hi, hg, hle]
   simp only [ins_G]
   refine ⟨Ls.flatten, R, post, rfl, by rw [lL], by rw [lL]; omega, by rw [lL]; omega, by omega, by omega, by simp [mkH_cons], hokR, fun R' hpR hR' => ?_⟩
   have lR' := hpR.length_eq
   simp only [go_sem, hr, hi, hg]
   refine wpA_loop (fun p : Nat × List (List Arc) × List Arc => ⟨mkV [(0, .one (.own 1048576 ver 6 0 l.length)), (1, .one (.lit (.int .i64 l.length))), (2, .one (.lit (.func (.func fc) ⟨[]⟩ ⟨[]⟩))), (6, .one (.lit (.int .i64 p.1)))], mkH [(1048576, ⟨ver, some ⟨(p.2.1.flatten ++ p.2.2 ++ post).map aC, 6, true⟩⟩)]⟩)
    (fun p => Pcs p.1 p.2.1 ∧ SortA p.2.2 ∧ p.2.2.length < p.1 ∧ p.1 ≤ 2147483648 ∧ l.Perm (p.2.1.flatten ++ p.2.2)) (fun p => 4294967296 - p.1) (20, Ls, R') ?_ ?_ ?_
   ·exact weak_lit (by simp [okS, okV, okC, okL, okH, okB, okE, mkV_cons, mkV_nil, mkH_cons, mkH_nil, wsA, ws]) (okH_a (by simp))
   ·exact ⟨hL, hR', by simp only; omega, by simp only; omega, hp.trans (List.Perm.append_left _ hpR)⟩
   ·rintro ⟨bs, Ks, Q⟩ ⟨hKs, hQ, hQl, hbs, hpK⟩
    simp only at hKs hQ hQl hbs hpK
    have lK := pcs_len hKs
    have hpl2 := hpK.length_eq
    rw [List.length_append, lK] at hpl2
    by_cases hdone : bs < l.length
    ·have hd' : (bs : Int) < (l.length : Int) := by omega
     have n2 : (2 : Int) * (bs : Int) = ((2 * bs : Nat) : Int) := by omega
     simp only [go_sem, hr, hi, hg, hd', n2]
     refine ⟨by omega, ?_⟩
     refine wpA_loop (fun p : Nat × List (List Arc) × List (List Arc) => ⟨mkV [(0, .one (.own 1048576 ver 6 0 l.length)), (1, .one (.lit (.int .i64 l.length))), (2, .one (.lit (.func (.func fc) ⟨[]⟩ ⟨[]⟩))), (6, .one (.lit (.int .i64 bs))), (7, .one (.lit (.int .i64 p.1))), (8, .one (.lit (.int .i64 (p.1 + 2 * bs : Nat))))], mkH [(1048576, ⟨ver, some ⟨(p.2.1.flatten ++ p.2.2.flatten ++ Q ++ post).map aC, 6, true⟩⟩)]⟩)
      (fun p => (p.1 = p.2.1.flatten.length ∧ Pcs (2 * bs) p.2.1) ∧ Pcs bs p.2.2 ∧ l.Perm (p.2.1.flatten ++ p.2.2.flatten ++ Q)) (fun p => p.2.2.length) (0, [], Ks) ?_ ?_ ?_
     ·exact weak_lit (by simp [okS, okV, okC, okL, okH, okB, okE, mkV_cons, mkV_nil, mkH_cons, mkH_nil, wsA, ws]) (okH_a (by simp))
     ·exact ⟨⟨rfl, fun c hc => by simp at hc⟩, hKs, by simpa using hpK⟩
     ·rintro ⟨g, Ms, Js⟩ ⟨⟨hg0, hMs⟩, hJs, hpJ⟩
      simp only at hg0 hMs hJs hpJ
      have lM := pcs_len hMs
      have lJ := pcs_len hJs
      have hpl3 := hpJ.length_eq
      rw [List.length_append, List.length_append, ← hg0] at hpl3
      have hokJ := okAs_perm hpJ hok
      have n3 : (g : Int) + (bs : Int) = ((g + bs : Nat) : Int) := by omega
      match Js, hJs, lJ, hpl3, hpJ, hokJ with
      | X :: Y :: Js, hJs, lJ, hpl3, hpJ, hokJ =>
       have hX := hJs X (by simp)
       have hY := hJs Y (by simp)
       have hJ' : Pcs bs Js := fun c hc => hJs c (by simp [hc])
       simp only [List.flatten_cons, List.length_append, hX.1, hY.1] at hpl3
       have hle : ((g + 2 * bs : Nat) : Int) ≤ (l.length : Int) := by omega
       simp only [List.flatten_cons, List.append_assoc, okAs_append] at hokJ
       simp only [go_sem, hr, hi, hg, hle, n2, n3]
       refine ⟨by omega, ?_⟩
       simp only [mrg_G]
       refine ⟨Ms.flatten, X, Y, Js.flatten ++ Q ++ post, rfl, by rw [← hg0], by rw [← hg0, hX.1], by rw [← hg0, hX.1, hY.1]; omega, fun h => ?_, fun h => ?_, by omega, by omega, by simp only [List.length_append]; omega, by omega, hokJ.2.1, hokJ.2.2.1, hX.2, hY.2, by simp [mkH_cons], fun C hpC hsC => ?_⟩
       ·rw [h] at hX; simp only [List.length_nil] at hX; omega
       ·rw [h] at hY; simp only [List.length_nil] at hY; omega
       have lC := hpC.length_eq
       rw [List.length_append, hX.1, hY.1] at lC
       simp only [go_sem, hr, hi, hg, n2, n3]
       have lMC : (Ms ++ [C]).flatten.length = g + 2 * bs := by simp only [List.flatten_append, List.flatten_cons, List.flatten_nil, List.append_nil, List.length_append]; omega
       refine ⟨by omega, by omega, (g + 2 * bs, Ms ++ [C], Js), weak_lit (by simp [okS, okV, okC, okL, okH, okB, okE, mkV_cons, mkV_nil, mkH_cons, mkH_nil, wsA, ws]) (okH_a (by simp)), ⟨⟨lMC.symm, pcs_snoc hMs (by omega) hsC⟩, hJ', ?_⟩, by simp only; omega⟩
       refine hpJ.trans ?_
       simp only [List.flatten_append, List.flatten_cons, List.flatten_nil, List.append_nil, List.append_assoc]
       refine List.Perm.append_left _ ?_
       rw [← List.append_assoc]
       exact List.Perm.append_right _ hpC
      | [X], hJs, lJ, hpl3, hpJ, hokJ =>
       have hX := hJs X (by simp)
       simp only [List.flatten_cons, List.flatten_nil, List.append_nil, hX.1] at hpl3
       have hle : ¬ ((g + 2 * bs : Nat) : Int) ≤ (l.length : Int) := by omega
       simp only [List.flatten_cons, List.flatten_nil, List.append_nil, List.append_assoc, okAs_append] at hokJ hpJ
       by_cases hQ0 : Q = []
       ·have hlt : ¬ ((g + bs : Nat) : Int) < (l.length : Int) := by rw [hQ0, List.length_nil] at hpl3; omega
        simp only [go_sem, hr, hi, hg, hle, n2, n3, hlt]
        have n4 : (bs : Int) * 2 = ((2 * bs : Nat) : Int) := by omega
        simp only [n4]
        refine ⟨by omega, by omega, (2 * bs, Ms, X), weak_lit (by simp [okS, okV, okC, okL, okH, okB, okE, mkV_cons, mkV_nil, mkH_cons, mkH_nil, wsA, ws]) (okH_a (by simp [hQ0])), ⟨hMs, hX.2, by simp only [hX.1]; omega, by simp only; omega, by simp only; rw [hQ0, List.append_nil] at hpJ; exact hpJ⟩, by simp only; omega⟩
       ·have hQp := List.length_pos_iff.2 hQ0
        have hlt : ((g + bs : Nat) : Int) < (l.length : Int) := by omega
        simp only [go_sem, hr, hi, hg, hle, n2, n3, hlt]
        refine ⟨by omega, ?_⟩
        simp only [mrg_G]
        refine ⟨Ms.flatten, X, Q, post, rfl, by rw [← hg0], by rw [← hg0, hX.1], by rw [← hg0, hX.1]; omega, fun h => ?_, hQ0, by omega, by omega, by omega, by omega, hokJ.2.1, hokJ.2.2, hX.2, hQ, by simp [mkH_cons], fun C hpC hsC => ?_⟩
        ·rw [h] at hX; simp only [List.length_nil] at hX; omega
        have lC := hpC.length_eq
        rw [List.length_append, hX.1] at lC
        simp only [go_sem, hr, hi, hg, n2, n3]
        have n4 : (bs : Int) * 2 = ((2 * bs : Nat) : Int) := by omega
        simp only [n4]
        refine ⟨by omega, (2 * bs, Ms, C), weak_lit (by simp [okS, okV, okC, okL, okH, okB, okE, mkV_cons, mkV_nil, mkH_cons, mkH_nil, wsA, ws]) (okH_a (by simp)), ⟨hMs, hsC, by simp only; omega, by simp only; omega, hpJ.trans (List.Perm.append_left _ hpC)⟩, by simp only; omega⟩
      | [], hJs, lJ, hpl3, hpJ, hokJ =>
       simp only [List.flatten_nil, List.length_nil] at hpl3
       have hle : ¬ ((g + 2 * bs : Nat) : Int) ≤ (l.length : Int) := by omega
       have hlt : ¬ ((g + bs : Nat) : Int) < (l.length : Int) := by omega
       simp only [go_sem, hr, hi, hg, hle, n2, n3, hlt]
       have n4 : (bs : Int) * 2 = ((2 * bs : Nat) : Int) := by omega
       simp only [n4]
       refine ⟨by omega, by omega, (2 * bs, Ms, Q), weak_lit (by simp [okS, okV, okC, okL, okH, okB, okE, mkV_cons, mkV_nil, mkH_cons, mkH_nil, wsA, ws]) (okH_a (by simp)), ⟨hMs, hQ, by simp only; omega, by simp only; omega, by simpa using hpJ⟩, by simp only; omega⟩
    ·have hd' : ¬ (bs : Int) < (l.length : Int) := by omega
     simp only [go_sem, hr, hi, hg, hd']
     refine hK _ hpK ?_
     match Ks, hKs, lK, hpl2 with
     | [], _, _, _ => exact hQ
     | [X], hKs, lK, hpl2 =>
      have : Q = [] := List.length_eq_zero_iff.1 (by simp only [List.length_singleton, Nat.mul_one] at hpl2; omega)
      rw [this]
      simp only [List.flatten_cons, List.flatten_nil, List.append_nil]
      exact (hKs X (by simp)).2
     | X :: Y :: Ks, hKs, lK, hpl2 =>
      exfalso
      simp only [List.length_cons] at hpl2
      have h2 : bs * 2 ≤ bs * (Ks.length + 1 + 1) := Nat.mul_le_mul_left _ (by omega)
      omega
end Go.Abs
end
