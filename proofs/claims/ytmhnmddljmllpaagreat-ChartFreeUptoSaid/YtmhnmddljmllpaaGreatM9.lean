/-
  Parts of the proof, merged: ChartV, ChartR, ChartW, ChartX, ComA, ChartRow, ComB, ComP, ChartY, ChartN, ComQ, ComC.
-/
import Derived.Test.YtmhnmddljmllpaaGreatM8
set_option linter.unusedVariables false
set_option linter.unusedSimpArgs false
section
set_option linter.unusedVariables false
namespace Go.Abs
open Go.Num
variable {P : Program} {L : List (Nat × Spec)}
theorem mrg_zero {f fc : Nat} (hE : Enters P f) : Sound P f (.own (mrg_G fc 0)) := by
 refine ⟨hE, fun E args vals w I m h d K _ _ hG => ?_⟩
 unfold mrg_G at hG
 split at hG
 ·obtain ⟨U, A, B, V, _, _, _, _, hA, _, hN, _⟩ := hG
  have := List.length_pos_iff.2 hA
  omega
 ·exact hG.elim
theorem mrgrec_sound (hΓ : Holds P (Gl L)) {f fr fc N : Nat} (hn1 : fr ≠ f) (hn2 : fc ≠ f) (hro : Gl L fr = .own (rot_G fc)) (hcm : Gl L fc = .dat true arccmp_G) (hc : check P f = some (220, (ac_slices_symMergeCmpFunc_g fr f).strip, [])) : Sound P f (.own (mrg_G fc N)) := by
 induction N with
 | zero =>
  obtain ⟨fn, c, h1, h2, h3, _⟩ := check_info hc
  exact mrg_zero (enters_of h1 h2 (by rw [h3]; rfl))
 | succ N ih =>
  have hh : Holds P (Gl ((f, .own (mrg_G fc N)) :: L)) := holds_cons hΓ ih
  refine mrg_sound (Γ := Gl ((f, .own (mrg_G fc N)) :: L)) hh (fs := f) ?_ ?_ ?_ hc
  ·unfold Gl; rw [if_neg hn1]; exact hro
  ·unfold Gl; rw [if_pos rfl]
  ·unfold Gl; rw [if_neg hn2]; exact hcm
end Go.Abs
end
section
set_option linter.unusedVariables false
namespace Go.Num
theorem floor_01 {q : Rat} (h0 : 0 ≤ q) (h1 : q < 1) : q.floor = 0 := by
 have a : (0 : Int) ≤ q.floor := Rat.le_floor_iff.2 h0
 have b : q.floor < 1 := Rat.floor_lt_iff.2 h1
 omega
theorem frac_01 {q : Rat} (h0 : 0 ≤ q) (h1 : q < 1) : frac q = q := by
 unfold frac; rw [floor_01 h0 h1]
 show q - 0 = q
 grind
theorem frac_ge (q : Rat) : 0 ≤ frac q := by
 unfold frac
 have := Rat.floor_le q
 grind
theorem frac_lt (q : Rat) : frac q < 1 := by
 unfold frac
 have := Rat.lt_floor (x := q)
 grind
theorem frac_frac (q : Rat) : frac (frac q) = frac q := frac_01 (frac_ge q) (frac_lt q)
theorem frac_int (n : Int) : frac (n : Rat) = 0 := by
 unfold frac; rw [Rat.floor_intCast]; grind
theorem frac_one : frac 1 = 0 := frac_int 1
instance (x : Rat) (a : Q2) : Decidable (mem x a) := by unfold mem; infer_instance
instance (x : Rat) (l : List Q2) : Decidable (memL x l) := by unfold memL; infer_instance
theorem any_mem (y : Rat) (l : List Arc) : l.any (inA y) = decide (memL y (vals l)) := by
 cases h : l.any (inA y) with
 | true =>
  obtain ⟨x, hx, hy⟩ := List.any_eq_true.1 h
  unfold inA at hy
  simp only [Bool.and_eq_true, decide_eq_true_eq] at hy
  exact (decide_eq_true ⟨av x, List.mem_map.2 ⟨x, hx, rfl⟩, hy.1, hy.2⟩).symm
 | false =>
  refine (decide_eq_false fun ⟨a, ha, h1, h2⟩ => ?_).symm
  obtain ⟨x, hx, rfl⟩ := List.mem_map.1 ha
  rw [List.any_eq_false] at h
  refine h x hx ?_
  unfold inA
  simp only [Bool.and_eq_true, decide_eq_true_eq]
  exact ⟨h1, h2⟩
theorem chk_good {l : List Arc} (h : chk [l] = 0) : l.length ≤ 64 ∧ ∀ x ∈ l, GoodA x :=
 ⟨(chk1_0 (chk_1 l ▸ h)).1, fun x hx => badA_f.1 ((chk1_0 (chk_1 l ▸ h)).2 x hx)⟩
theorem chk_val {l : List Arc} (h : chk [l] = 0) : Pos (vals l) ∧ In01 (vals l) := by
 obtain ⟨_, h2⟩ := chk_good h
 refine ⟨fun a ha => ?_, fun a ha => ?_⟩
 ·obtain ⟨x, hx, rfl⟩ := List.mem_map.1 ha
  exact (h2 x hx).lt
 ·obtain ⟨x, hx, rfl⟩ := List.mem_map.1 ha
  exact ⟨(h2 x hx).lo, (h2 x hx).hi⟩
def diff (l m : List Arc) (y : Rat) : Bool := l.any (inA (frac y)) != m.any (inA (frac y))
def mk1 (x : Arc) : List Rat := [rv x.1, frac (rv x.2)]
def mks (l : List Arc) : List Rat := l.flatMap mk1
theorem norms_tell {l m : List Arc} (hl : chk [l] = 0) (hm : chk [m] = 0) : (mks l ++ mks m).any (diff l m) = !decide (nrm (vals l) = nrm (vals m)) := by
 obtain ⟨pl, il⟩ := chk_val hl
 obtain ⟨pm, im⟩ := chk_val hm
 obtain ⟨_, gl⟩ := chk_good hl
 obtain ⟨_, gm⟩ := chk_good hm
 have hd : ∀ y, diff l m y = false ↔ (memL (frac y) (vals l) ↔ memL (frac y) (vals m)) := by
  intro y
  unfold diff
  rw [any_mem, any_mem]
  simp
 by_cases h : nrm (vals l) = nrm (vals m)
 ·rw [decide_eq_true h, Bool.not_true, List.any_eq_false]
  intro y _
  rw [(hd y).2 ((nrm_eq_iff pl pm).1 h (frac y))]
  simp
 ·rw [decide_eq_false h, Bool.not_false]
  cases hall : (mks l ++ mks m).any (diff l m) with
  | true => rfl
  | false =>
   exfalso
   apply h
   rw [nrm_eq_iff pl pm]
   rw [List.any_eq_false] at hall
   have key : ∀ (n : List Arc), (∀ x ∈ n, GoodA x) → (∀ a ∈ vals n, a.1 ∈ (mks n).map frac) ∧ (∀ a ∈ vals n, a.2 < 1 → a.2 ∈ (mks n).map frac) := by
    intro n hn
    refine ⟨fun a ha => ?_, fun a ha h1 => ?_⟩
    ·obtain ⟨x, hx, rfl⟩ := List.mem_map.1 ha
     have g := hn x hx
     refine List.mem_map.2 ⟨rv x.1, List.mem_flatMap.2 ⟨x, hx, by simp [mk1]⟩, frac_01 g.lo ?_⟩
     have := g.lt; have := g.hi; grind
    ·obtain ⟨x, hx, rfl⟩ := List.mem_map.1 ha
     have g := hn x hx
     have h0 : 0 ≤ rv x.2 := by have := g.lt; have := g.lo; grind
     refine List.mem_map.2 ⟨frac (rv x.2), List.mem_flatMap.2 ⟨x, hx, by simp [mk1]⟩, ?_⟩
     rw [frac_frac]
     exact frac_01 h0 h1
   obtain ⟨l1, l2⟩ := key l gl
   obtain ⟨m1, m2⟩ := key m gm
   refine fun x => marks_tell (M := (mks l ++ mks m).map frac) ?_ ?_ ?_ ?_ il im ?_ x
   ·intro a ha; rw [List.map_append]; exact List.mem_append.2 (.inl (l1 a ha))
   ·intro a ha h; rw [List.map_append]; exact List.mem_append.2 (.inl (l2 a ha h))
   ·intro a ha; rw [List.map_append]; exact List.mem_append.2 (.inr (m1 a ha))
   ·intro a ha h; rw [List.map_append]; exact List.mem_append.2 (.inr (m2 a ha h))
   ·intro k hk
    obtain ⟨y, hy, rfl⟩ := List.mem_map.1 hk
    have := hall y hy
    exact (hd y).1 (by simpa using this)
def endsIn (l p : List Q2) : Prop := ∀ q ∈ l, (∃ a ∈ p, q.1 = a.1) ∧ ∃ a ∈ p, q.2 = a.2
theorem swStep_ends {w : Sw} {a : Q2} {p : List Q2} (h : endsIn (swOut w) p) (ha : a ∈ p) : endsIn (swOut (swStep w a)) p := by
 match w, h with
 | none, h =>
  intro q hq
  simp [swStep, swOut] at hq
  subst hq
  exact ⟨⟨q, ha, rfl⟩, ⟨q, ha, rfl⟩⟩
 | some (o, z), h =>
  simp only [swStep]
  have hz := h z (by simp [swOut])
  split
  ·intro q hq
   simp only [swOut, List.mem_append, List.mem_singleton] at hq
   rcases hq with hq | rfl
   ·exact h q (by simp [swOut, hq])
   ·refine ⟨hz.1, ?_⟩
    simp only [mxQ]
    split
    ·exact hz.2
    ·exact ⟨a, ha, rfl⟩
  ·intro q hq
   simp only [swOut, List.mem_append, List.mem_singleton] at hq
   rcases hq with hq | rfl
   ·exact h q (by simpa [swOut] using hq)
   ·exact ⟨⟨q, ha, rfl⟩, ⟨q, ha, rfl⟩⟩
theorem fold_ends {p : List Q2} : ∀ (l : List Q2) (w : Sw), endsIn (swOut w) p → (∀ a ∈ l, a ∈ p) → endsIn (swOut (l.foldl swStep w)) p
 | [], w, h, _ => h
 | a :: l, w, h, hl => fold_ends l _ (swStep_ends h (hl a (by simp))) fun b hb => hl b (by simp [hb])
theorem nrm_ends (l : List Q2) : endsIn (nrm l) l :=
 fold_ends (p := l) _ none (fun q hq => by simp [swOut] at hq) fun a ha => (List.mergeSort_perm l _).mem_iff.1 ha
def rzQ (b : Nat) (l : List Q2) : Prop := ∀ q ∈ l, rz q.1 ≤ b ∧ rz q.2 ≤ b
theorem rzQ_vals {b : Nat} {l : List Arc} (h : okAs b l) : rzQ b (vals l) := fun q hq => by
 obtain ⟨x, hx, rfl⟩ := List.mem_map.1 hq
 have := h x hx
 exact ⟨Nat.le_trans (rz_rv this.1.1) (Nat.le_trans (Nat.le_max_left _ _) this.2), Nat.le_trans (rz_rv this.1.2) (Nat.le_trans (Nat.le_max_right _ _) this.2)⟩
theorem rzQ_nrm {b : Nat} {l : List Q2} (h : rzQ b l) : rzQ b (nrm l) := fun q hq => by
 obtain ⟨⟨a, ha, e1⟩, ⟨c, hc, e2⟩⟩ := nrm_ends l q hq
 rw [e1, e2]
 exact ⟨(h a ha).1, (h c hc).2⟩
theorem okAs_nrm {b : Nat} {l : List Arc} (h : okAs b l) : okAs b ((nrm (vals l)).map acan) := okAs_can (rzQ_nrm (rzQ_vals h))
theorem chk_nrm {l : List Arc} (h : chk [l] = 0) : chk [(nrm (vals l)).map acan] = 0 := by
 obtain ⟨p, i⟩ := chk_val h
 refine chk_can ?_ (nrm_ok p).1 (nrm_in p i)
 have := nrm_len (vals l)
 have := (chk_good h).1
 simp only [vals, List.length_map] at *
 omega
theorem validL_t {l : List Arc} (h : validL l = true) : chk [l] = 0 ∧ l.length ≤ 20 := by
 unfold validL at h
 simp only [Bool.and_eq_true, Bool.not_eq_true', decide_eq_true_eq] at h
 obtain ⟨h1, h2⟩ := h
 refine ⟨by rw [chk_1]; exact h2, ?_⟩
 refine Nat.le_of_not_lt fun h20 => ?_
 have h64 := (chk1_0 h2).1
 unfold largeL at h1
 rw [if_pos h20, decide_eq_true h64] at h1
 simp at h1
end Go.Num
end
section
set_option linter.unusedVariables false
set_option linter.unusedSimpArgs false
set_option maxRecDepth 100000
namespace Go.Num
def not1 (f t : Rat) : List Q2 := if f < t then [(f, t)] else []
def notGo : Rat → List Q2 → List Q2
 | f, [] => not1 f 1
 | f, a :: l => not1 f a.1 ++ notGo a.2 l
def notL (l : List Q2) : List Q2 := notGo 0 l
def gaps : Rat → List Q2 → List Q2 × Rat
 | f, [] => ([], f)
 | f, a :: l => let r := gaps a.2 l; (not1 f a.1 ++ r.1, r.2)
theorem notGo_gaps : ∀ (f : Rat) (l : List Q2), notGo f l = (gaps f l).1 ++ not1 (gaps f l).2 1
 | f, [] => by simp [notGo, gaps]
 | f, a :: l => by simp only [notGo, gaps]; rw [notGo_gaps a.2 l, List.append_assoc]
theorem gaps_snoc : ∀ (f : Rat) (l : List Q2) (a : Q2), gaps f (l ++ [a]) = ((gaps f l).1 ++ not1 (gaps f l).2 a.1, a.2)
 | f, [], a => by simp [gaps]
 | f, b :: l, a => by simp only [List.cons_append, gaps]; rw [gaps_snoc b.2 l a]; simp
def meet1 (x y : Q2) : List Q2 := not1 (mxQ x.1 y.1) (mnQ x.2 y.2)
def meetL (a b : List Q2) : List Q2 := a.flatMap fun x => b.flatMap fun y => meet1 x y
theorem not1_len (f t : Rat) : (not1 f t).length ≤ 1 := by unfold not1; split <;> simp
theorem gaps_len : ∀ (f : Rat) (l : List Q2), (gaps f l).1.length ≤ l.length
 | f, [] => by simp [gaps]
 | f, a :: l => by
  have h1 := gaps_len a.2 l
  have h2 := not1_len f a.1
  simp only [gaps, List.length_append, List.length_cons]; omega
theorem notL_len (l : List Q2) : (notL l).length ≤ l.length + 1 := by
 unfold notL; rw [notGo_gaps, List.length_append]
 have h1 := gaps_len 0 l
 have h2 := not1_len (gaps 0 l).2 1
 omega
theorem flat_len {α β : Type} (f : α → List β) (n : Nat) (h : ∀ x, (f x).length ≤ n) : ∀ l : List α, (l.flatMap f).length ≤ l.length * n
 | [] => by simp
 | x :: l => by
  have h1 := h x
  have h2 := flat_len f n h l
  simp only [List.flatMap_cons, List.length_append, List.length_cons, Nat.add_mul, Nat.one_mul]; omega
theorem meetL_len (a b : List Q2) : (meetL a b).length ≤ a.length * b.length := by
 refine flat_len _ _ (fun x => ?_) a
 have := flat_len (fun y => meet1 x y) 1 (fun y => not1_len _ _) b
 simpa using this
theorem rz_gaps {b : Nat} : ∀ (l : List Q2) (f : Rat), rz f ≤ b → rzQ b l → rzQ b (gaps f l).1 ∧ rz (gaps f l).2 ≤ b
 | [], f, h, _ => ⟨fun q hq => by simp [gaps] at hq, h⟩
 | a :: l, f, h, hl => by
  have ha := hl a (by simp)
  obtain ⟨h1, h2⟩ := rz_gaps l a.2 ha.2 fun q hq => hl q (by simp [hq])
  refine ⟨fun q hq => ?_, h2⟩
  simp only [gaps, List.mem_append] at hq
  rcases hq with hq | hq
  ·unfold not1 at hq
   split at hq
   ·rw [List.mem_singleton] at hq; subst hq; exact ⟨h, ha.1⟩
   ·simp at hq
  ·exact h1 q hq
theorem rz_mx {p q : Rat} {b : Nat} (hp : rz p ≤ b) (hq : rz q ≤ b) : rz (mxQ p q) ≤ b := by unfold mxQ; split <;> assumption
theorem rz_mn {p q : Rat} {b : Nat} (hp : rz p ≤ b) (hq : rz q ≤ b) : rz (mnQ p q) ≤ b := by unfold mnQ; split <;> assumption
end Go.Num
namespace Go.Abs
open Go.Num
variable {P : Program} {Γ : Nat → Spec}
def cnot_G (l : List AV) (K : AV → Prop) : Prop :=
 match l with
 | [a] => onAs (fun l => l.length ≤ 1000 ∧ okAs 1000000000 l ∧ K (.one (.slice (((notL (vals l)).map acan).map aC)))) a
 | _ => False
theorem cnot_Ge (a : AV) (K : AV → Prop) : cnot_G [a] K = (onAs (fun l => l.length ≤ 1000 ∧ okAs 1000000000 l ∧ K (.one (.slice (((notL (vals l)).map acan).map aC)))) a) := propext Iff.rfl
@[congr] theorem cnot_Gc {K : AV → Prop} {l l' : List AV} (h : l = l') : cnot_G l K = cnot_G l' K := by subst h; rfl
attribute [go_sem] cnot_Ge
attribute [go_sem ↓] cnot_Ge
theorem cnot_good : Good cnot_G := good_of fun as => by
 unfold cnot_G
 split
 ·exact (g_onAs fun _ => (.and fun _ => (.and fun _ => (.ret _))))
 ·exact .of fun K hk => hk.elim
def cmeet_G (l : List AV) (K : AV → Prop) : Prop :=
 match l with
 | [a, b] => onAs (fun l => onAs (fun m => l.length ≤ 1000 ∧ m.length ≤ 1000 ∧ okAs 1000000000 l ∧ okAs 1000000000 m ∧ K (.one (.slice (((meetL (vals l) (vals m)).map acan).map aC)))) b) a
 | _ => False
theorem cmeet_Ge (a b : AV) (K : AV → Prop) : cmeet_G [a, b] K = (onAs (fun l => onAs (fun m => l.length ≤ 1000 ∧ m.length ≤ 1000 ∧ okAs 1000000000 l ∧ okAs 1000000000 m ∧ K (.one (.slice (((meetL (vals l) (vals m)).map acan).map aC)))) b) a) := propext Iff.rfl
@[congr] theorem cmeet_Gc {K : AV → Prop} {l l' : List AV} (h : l = l') : cmeet_G l K = cmeet_G l' K := by subst h; rfl
attribute [go_sem] cmeet_Ge
attribute [go_sem ↓] cmeet_Ge
theorem cmeet_good : Good cmeet_G := good_of fun as => by
 unfold cmeet_G
 split
 ·exact (g_onAs fun _ => (g_onAs fun _ => (.and fun _ => (.and fun _ => (.and fun _ => (.and fun _ => (.ret _)))))))
 ·exact .of fun K hk => hk.elim
def ac_chart_not (f0 f1 f2 : Nat) : AC := (.seq (.ops false [.m 2 (.c (.one .emp))])
 (.fg [0] (.seq (.ops false [.m 3 (.c (.one .emp))])
 (.fg [0, 3] (.seq (.ops false [.u 7 (.build [.z [(.lit (.bool false)), .emp, .emp]]), .u 4 (.alloc [(.lit (.bool false)), .emp, .emp]), .n (.st none 3 (.t 4) (.t 7))])
 (.fg [0, 3, 4] (.seq (.seq (.ops false [.m 8 (.t 0), .u 9 (.len (.t 8)), .m 10 (.i 0)])
 (.fg [3, 4, 8, 9, 10] (.block 0 (.loop (.seq (.ops false [.u 11 (.bin .lss (.t 10) (.t 9))])
 (.fg [3, 4, 8, 9, 10, 11] (.seq (.cond (.t 11) .skip (.exit 0))
 (.fg [3, 4, 8, 9, 10] (.seq (.block 1 (.seq (.ops false [.u 12 (.idx 6 (.t 8) (.t 10)), .u 13 (.ld none 6 true (.t 12)), .u 6 (.alloc [(.lit (.bool false)), .emp, .emp, (.lit (.bool false)), .emp, .emp]), .n (.st none 6 (.t 6) (.t 13))])
 (.fg [3, 4, 6, 8, 9, 10] (.seq (.seq (.ops false [.u 14 (.ld none 3 true (.t 4)), .u 15 (.fa 0 (.t 6)), .u 16 (.ld none 3 true (.t 15)), .u 17 (.call f0 [(.t 14), (.t 16)]), .u 18 (.bin .lss (.t 17) (.i 0))])
 (.fg [3, 4, 6, 8, 9, 10, 18] (.cond (.t 18) (.ops false [.m 19 (.t 3), .u 20 (.ld none 3 true (.t 4)), .u 21 (.fa 0 (.t 6)), .u 22 (.ld none 3 true (.t 21)), .u 23 (.call f1 [(.t 20), (.t 22)]), .u 24 (.row 6 [[.x 6 (.t 23)]]), .u 25 (.app 6 (.t 19) (.t 24)), .m 3 (.t 25)]) .skip)))
 (.fg [3, 4, 6, 8, 9, 10] (.ops false [.u 26 (.fa 3 (.t 6)), .u 27 (.ld none 3 true (.t 26)), .n (.st none 3 (.t 4) (.t 27))]))))))
 (.fg [3, 4, 8, 9, 10] (.ops false [.u 28 (.bin .add (.t 10) (.i 1)), .m 10 (.t 28)])))))))))))
 (.fg [3, 4] (.seq (.seq (.ops true [.u 29 (.ld none 3 true (.t 4)), .u 30 (.call f2 []), .u 31 (.call f0 [(.t 29), (.t 30)]), .u 32 (.bin .lss (.t 31) (.i 0))])
 (.fg [3, 4, 32] (.cond (.t 32) (.ops true [.m 33 (.t 3), .u 34 (.ld none 3 true (.t 4)), .u 35 (.call f2 []), .u 36 (.call f1 [(.t 34), (.t 35)]), .u 37 (.row 6 [[.x 6 (.t 36)]]), .u 38 (.app 6 (.t 33) (.t 37)), .m 3 (.t 38)]) .skip)))
 (.fg [3] (.seq (.ops false [.m 39 (.t 3), .m 2 (.t 39)])
 .ret)))))))))))
def ac_chart_meet (f0 f1 f2 : Nat) : AC := (.seq (.ops false [.m 4 (.c (.one .emp))])
 (.fg [0, 1] (.seq (.ops false [.m 5 (.c (.one .emp))])
 (.fg [0, 1, 5] (.seq (.seq (.ops false [.m 12 (.t 0), .u 13 (.len (.t 12)), .m 14 (.i 0)])
 (.fg [1, 5, 12, 13, 14] (.block 0 (.loop (.seq (.ops false [.u 15 (.bin .lss (.t 14) (.t 13))])
 (.fg [1, 5, 12, 13, 14, 15] (.seq (.cond (.t 15) .skip (.exit 0))
 (.fg [1, 5, 12, 13, 14] (.seq (.block 1 (.seq (.ops false [.u 16 (.idx 6 (.t 12) (.t 14)), .u 17 (.ld none 6 true (.t 16)), .u 7 (.alloc [(.lit (.bool false)), .emp, .emp, (.lit (.bool false)), .emp, .emp]), .n (.st none 6 (.t 7) (.t 17))])
 (.fg [1, 5, 7, 12, 13, 14] (.seq (.ops false [.m 18 (.t 1), .u 19 (.len (.t 18)), .m 20 (.i 0)])
 (.fg [1, 5, 7, 12, 13, 14, 18, 19, 20] (.block 2 (.loop (.seq (.ops false [.u 21 (.bin .lss (.t 20) (.t 19))])
 (.fg [1, 5, 7, 12, 13, 14, 18, 19, 20, 21] (.seq (.cond (.t 21) .skip (.exit 2))
 (.fg [1, 5, 7, 12, 13, 14, 18, 19, 20] (.seq (.block 3 (.seq (.ops false [.u 22 (.idx 6 (.t 18) (.t 20)), .u 23 (.ld none 6 true (.t 22)), .u 9 (.alloc [(.lit (.bool false)), .emp, .emp, (.lit (.bool false)), .emp, .emp]), .n (.st none 6 (.t 9) (.t 23))])
 (.fg [1, 5, 7, 9, 12, 13, 14, 18, 19, 20] (.seq (.ops true [.u 24 (.fa 0 (.t 7)), .u 25 (.ld none 3 true (.t 24)), .u 26 (.fa 0 (.t 9)), .u 27 (.ld none 3 true (.t 26)), .u 28 (.call f0 [(.t 25), (.t 27)]), .u 29 (.fa 3 (.t 7)), .u 30 (.ld none 3 true (.t 29)), .u 31 (.fa 3 (.t 9)), .u 32 (.ld none 3 true (.t 31)), .u 33 (.call f1 [(.t 30), (.t 32)]), .u 10 (.alloc [(.lit (.bool false)), .emp, .emp]), .u 11 (.alloc [(.lit (.bool false)), .emp, .emp]), .n (.st none 3 (.t 10) (.t 28)), .n (.st none 3 (.t 11) (.t 33))])
 (.fg [1, 5, 7, 10, 11, 12, 13, 14, 18, 19, 20] (.seq (.ops false [.u 34 (.ld none 3 true (.t 10)), .u 35 (.ld none 3 true (.t 11)), .u 36 (.call f2 [(.t 34), (.t 35)]), .u 37 (.bin .lss (.t 36) (.i 0))])
 (.fg [1, 5, 7, 10, 11, 12, 13, 14, 18, 19, 20, 37] (.cond (.t 37) (.ops false [.m 38 (.t 5), .u 39 (.ld none 3 true (.t 10)), .u 40 (.ld none 3 true (.t 11)), .u 41 (.build [.x 3 (.t 39), .x 3 (.t 40)]), .u 42 (.row 6 [[.x 6 (.t 41)]]), .u 43 (.app 6 (.t 38) (.t 42)), .m 5 (.t 43)]) .skip))))))))
 (.fg [1, 5, 7, 12, 13, 14, 18, 19, 20] (.ops false [.u 44 (.bin .add (.t 20) (.i 1)), .m 20 (.t 44)]))))))))))))))
 (.fg [1, 5, 12, 13, 14] (.ops false [.u 45 (.bin .add (.t 14) (.i 1)), .m 14 (.t 45)])))))))))))
 (.fg [5] (.seq (.ops false [.m 46 (.t 5), .m 4 (.t 46)])
 .ret)))))))
theorem okB_0 {h h' : Nat → HB} {z : Nat} {b : Bool} {y : R} (e : y = rcan 0) : okB h h' (some ⟨[[.lit (.bool false), .emp, .emp]], z, b⟩) (some ⟨[[cb y, cn y, cd y]], z, b⟩) := by
 subst e
 rw [rcan_zero]
 exact ⟨⟨rfl, rfl⟩, .inr ⟨⟨rfl, rfl, rfl, trivial⟩, trivial⟩⟩
theorem cnot_sound (hΓ : Holds P Γ) {f fc fo f1 : Nat} (hcm : Γ fc = .dat true rcmp_G) (ho : Γ fo = .dat false cown_G) (h1 : Γ f1 = .dat false cone_G) (hc : check P f = some (40, (ac_chart_not fc fo f1).strip, [.tmp 2])) : Sound P f (.dat false cnot_G) := by
 refine sound_dat hc cnot_good hΓ (fun args K hcl hfi hG => ?_)
 match args, hG with
 | [a], hG =>
  obtain ⟨l, rfl, hwl, hlen, hok, hK⟩ := hG
  refine ⟨by simp, ?_⟩
  simp only [go_sem, ac_chart_not, hcm, ho, h1]
  intro _
  refine wpA_loop (fun p : Nat × R × List Q2 => match p.2.2 with
    | [] => ⟨mkV [(3, .one .emp), (4, .one (.ptr 4 1 0 0)), (8, asA l), (9, .one (.lit (.int .i64 l.length))), (10, .one (.lit (.int .i64 p.1)))], mkH [(4, ⟨1, some ⟨[[cb p.2.1, cn p.2.1, cd p.2.1]], 3, true⟩⟩)]⟩
    | q :: L => ⟨mkV [(3, .one (.own 25 1 6 0 (q :: L).length)), (4, .one (.ptr 4 1 0 0)), (8, asA l), (9, .one (.lit (.int .i64 l.length))), (10, .one (.lit (.int .i64 p.1)))], mkH [(4, ⟨1, some ⟨[[cb p.2.1, cn p.2.1, cd p.2.1]], 3, true⟩⟩), (25, ⟨1, some ⟨((q :: L).map acan).map aC, 6, true⟩⟩)]⟩)
   (fun p => p.1 ≤ l.length ∧ (rv p.2.1 = (gaps 0 (vals (l.take p.1))).2 ∧ p.2.2 = (gaps 0 (vals (l.take p.1))).1) ∧ WLR p.2.1 ∧ rl p.2.1 ≤ 1000000000) (fun p => l.length - p.1) (0, rcan 0, []) ?_ ?_ ?_
  ·exact weak_lit (by simp [okS, okV, okC, okL, okH, okB, okE, mkV_cons, mkV_nil, mkH_cons, mkH_nil, wsA, ws, asA, as]) ⟨okB_0 rfl, trivial⟩
  ·exact ⟨Nat.zero_le _, ⟨by simp only [rv_rcan]; rfl, rfl⟩, WLR_rcan _, by rw [rl_can, rz_zero]; decide⟩
  ·rintro ⟨i, y, L⟩ ⟨hi, ⟨hy, hL⟩, hyw, hyl⟩
   simp only at hi hy hL hyw hyl
   have hLl : L.length ≤ i := by
    have := gaps_len 0 (vals (l.take i))
    rw [← hL] at this
    simp only [vals, List.length_map, List.length_take] at this
    omega
   have hyl' : rl y ≤ 4294967296 := by omega
   by_cases hlt : i < l.length
   ·obtain ⟨x, hx⟩ : ∃ x, l.getD i a0 = x := ⟨_, rfl⟩
    have hx0 : l[i]? = some x := by rw [← hx, List.getD_eq_getElem?_getD, List.getElem?_eq_getElem hlt]; rfl
    have hox := hok x (List.mem_of_getElem? hx0)
    have hx1 : rl x.1 ≤ 1000000000 := Nat.le_trans (Nat.le_max_left _ _) hox.2
    have hx2 : rl x.2 ≤ 1000000000 := Nat.le_trans (Nat.le_max_right _ _) hox.2
    have hx1' : rl x.1 ≤ 4294967296 := by omega
    have hx3 := hox.1.1
    have hx4 := hox.1.2
    have e : vals (l.take (i + 1)) = vals (l.take i) ++ [av x] := by rw [List.take_add_one, hx0]; simp [vals]
    have hg : (gaps 0 (vals (l.take (i + 1)))).1 = L ++ not1 (rv y) (rv x.1) ∧ (gaps 0 (vals (l.take (i + 1)))).2 = rv x.2 := by
     rw [e, gaps_snoc, ← hy, ← hL]; exact ⟨rfl, rfl⟩
    match L, hL, hLl, hg with
    | [], hL, hLl, hg =>
     simp only [go_sem, hcm, ho, h1, hlt, hx, aC_eq, hx1', hx3, hx4, hyw, hyl', ordQ_lt]
     refine ⟨fun hc1 => ⟨by simp, by omega, (i + 1, x.2, [(rv y, rv x.1)]), weak_lit (by simp [okS, okV, okC, okL, okH, okB, okE, mkV_cons, mkV_nil, mkH_cons, mkH_nil, wsA, ws, asA, as]) ?_, ⟨by (try simp only); omega, ⟨hg.2.symm, ?_⟩, hx4, hx2⟩, by (try simp only); omega⟩, fun hc1 => ⟨by omega, (i + 1, x.2, []), weak_lit (by simp [okS, okV, okC, okL, okH, okB, okE, mkV_cons, mkV_nil, mkH_cons, mkH_nil, wsA, ws, asA, as]) ⟨okB_r, trivial⟩, ⟨by (try simp only); omega, ⟨hg.2.symm, ?_⟩, hx4, hx2⟩, by (try simp only); omega⟩⟩
     ·refine ⟨okB_r, okB_a (l' := ([(rv y, rv x.1)] : List Q2).map acan) ?_, trivial⟩
      simp [aC, acan]
     ·rw [hg.1]; unfold not1; rw [if_pos hc1]; rfl
     ·rw [hg.1]; unfold not1; rw [if_neg hc1]; rfl
    | q :: L, hL, hLl, hg =>
     simp only [go_sem, hcm, ho, h1, hlt, hx, aC_eq, hx1', hx3, hx4, hyw, hyl', ordQ_lt]
     simp only [List.length_cons] at hLl
     refine ⟨fun hc1 => ⟨by simp, by omega, by omega, (i + 1, x.2, q :: (L ++ [(rv y, rv x.1)])), weak_lit (by simp [okS, okV, okC, okL, okH, okB, okE, mkV_cons, mkV_nil, mkH_cons, mkH_nil, wsA, ws, asA, as]) ?_, ⟨by (try simp only); omega, ⟨hg.2.symm, ?_⟩, hx4, hx2⟩, by (try simp only); omega⟩, fun hc1 => ⟨by omega, (i + 1, x.2, q :: L), weak_lit (by simp [okS, okV, okC, okL, okH, okB, okE, mkV_cons, mkV_nil, mkH_cons, mkH_nil, wsA, ws, asA, as]) ?_, ⟨by (try simp only); omega, ⟨hg.2.symm, ?_⟩, hx4, hx2⟩, by (try simp only); omega⟩⟩
     ·refine ⟨okB_r, okB_a (l' := (q :: (L ++ [(rv y, rv x.1)]) : List Q2).map acan) ?_, trivial⟩
      simp [aC, acan]
     ·rw [hg.1]; unfold not1; rw [if_pos hc1]; rfl
     ·exact ⟨okB_r, okB_a (l' := (q :: L).map acan) rfl, trivial⟩
     ·rw [hg.1]; unfold not1; rw [if_neg hc1]; simp
   ·have hfin : notL (vals l) = L ++ not1 (rv y) 1 := by
     unfold notL
     rw [notGo_gaps]
     rw [List.take_of_length_le (by omega)] at hy hL
     rw [← hy, ← hL]
    rw [hfin] at hK
    have hz1 : rz 1 ≤ 4294967296 := by have := rz_one; omega
    match L, hL, hLl, hK with
    | [], hL, hLl, hK =>
     simp only [go_sem, hcm, ho, h1, hlt, hyw, hyl', ordQ_lt, hz1, List.length_append]
     refine ⟨fun hc1 => ?_, fun hc1 => ?_⟩
     ·unfold not1 at hK; rw [if_pos hc1] at hK
      exact ⟨by simp, hK⟩
     ·unfold not1 at hK; rw [if_neg hc1] at hK
      exact hK
    | q :: L, hL, hLl, hK =>
     simp only [go_sem, hcm, ho, h1, hlt, hyw, hyl', ordQ_lt, hz1, List.length_append]
     simp only [List.length_cons] at hLl
     refine ⟨fun hc1 => ?_, fun hc1 => ?_⟩
     ·unfold not1 at hK; rw [if_pos hc1] at hK
      have e2 : aC (acan q) :: (List.map aC (List.map acan L) ++ [[cb (rcan (rv y)), cn (rcan (rv y)), cd (rcan (rv y)), cb (rcan 1), cn (rcan 1), cd (rcan 1)]]) = ((q :: L ++ [(rv y, 1)]).map acan).map aC := by simp [aC, acan]
      rw [e2]
      simp only [go_sem]
      exact ⟨by simp, by omega, hK⟩
     ·unfold not1 at hK; rw [if_neg hc1, List.append_nil] at hK
      have e2 : aC (acan q) :: List.map aC (List.map acan L) = ((q :: L).map acan).map aC := rfl
      rw [e2]
      simp only [go_sem]
      exact hK
theorem okB_a1 {h h' : Nat → HB} {z : Nat} {b : Bool} {x : Arc} : okB h h' (some ⟨[[cb x.1, cn x.1, cd x.1, cb x.2, cn x.2, cd x.2]], z, b⟩) (some ⟨[aC x], z, b⟩) := okB_a (l' := [x]) rfl
theorem cmeet_sound (hΓ : Holds P Γ) {f fx fn fc : Nat} (hx' : Γ fx = .dat false rmax_G) (hn : Γ fn = .dat false rmin_G) (hcm : Γ fc = .dat true rcmp_G) (hc : check P f = some (47, (ac_chart_meet fx fn fc).strip, [.tmp 4])) : Sound P f (.dat false cmeet_G) := by
 refine sound_dat hc cmeet_good hΓ (fun args K hcl hfi hG => ?_)
 match args, hG with
 | [a, b], hG =>
  obtain ⟨l, rfl, hwl, m, rfl, hwm, hlen, hlenm, hok, hokm, hK⟩ := hG
  refine ⟨by simp, ?_⟩
  simp only [go_sem, ac_chart_meet, hx', hn, hcm]
  intro _
  refine wpA_loop (fun p : Nat × List Q2 => match p.2 with
    | [] => ⟨mkV [(1, asA m), (5, .one .emp), (12, asA l), (13, .one (.lit (.int .i64 l.length))), (14, .one (.lit (.int .i64 p.1)))], mkH []⟩
    | q :: L => ⟨mkV [(1, asA m), (5, .one (.own 43 1 6 0 (q :: L).length)), (12, asA l), (13, .one (.lit (.int .i64 l.length))), (14, .one (.lit (.int .i64 p.1)))], mkH [(43, ⟨1, some ⟨((q :: L).map acan).map aC, 6, true⟩⟩)]⟩)
   (fun p => p.1 ≤ l.length ∧ p.2 = meetL (vals (l.take p.1)) (vals m)) (fun p => l.length - p.1) (0, []) ?_ ?_ ?_
  ·exact weak_lit (by simp [okS, okV, okC, okL, okH, okB, okE, mkV_cons, mkV_nil, mkH_cons, mkH_nil, wsA, ws, asA, as]) trivial
  ·exact ⟨Nat.zero_le _, rfl⟩
  ·rintro ⟨i, L⟩ ⟨hi, hL⟩
   simp only at hi hL
   by_cases hlt : i < l.length
   ·obtain ⟨x, hx⟩ : ∃ x, l.getD i a0 = x := ⟨_, rfl⟩
    have hx0 : l[i]? = some x := by rw [← hx, List.getD_eq_getElem?_getD, List.getElem?_eq_getElem hlt]; rfl
    have hox := hok x (List.mem_of_getElem? hx0)
    have hx1 : rl x.1 ≤ 1000000000 := Nat.le_trans (Nat.le_max_left _ _) hox.2
    have hx2 : rl x.2 ≤ 1000000000 := Nat.le_trans (Nat.le_max_right _ _) hox.2
    have hx1' : rl x.1 ≤ 4294967296 := by omega
    have hx2' : rl x.2 ≤ 4294967296 := by omega
    have hx3 := hox.1.1
    have hx4 := hox.1.2
    have rx1 := Nat.le_trans (rz_rv hx3) hx1
    have rx2 := Nat.le_trans (rz_rv hx4) hx2
    have hstepO : vals (l.take (i + 1)) = vals (l.take i) ++ [av x] := by rw [List.take_add_one, hx0]; simp [vals]
    have hLO : meetL (vals (l.take (i + 1))) (vals m) = L ++ (vals m).flatMap (meet1 (av x)) := by
     rw [hstepO, hL]; simp [meetL]
    have hLlen : L.length ≤ i * 1000 := by
     rw [hL]
     refine Nat.le_trans (meetL_len _ _) ?_
     simp only [vals, List.length_map, List.length_take]
     exact Nat.mul_le_mul (by omega) hlenm
    match L, hL, hLO, hLlen with
    | [], hL, hLO, hLlen =>
     simp only [go_sem, hx', hn, hcm, hlt, hx, aC_eq]
     intro _
     refine wpA_loop (fun p : Nat × List Q2 => match p.2 with
       | [] => ⟨mkV [(1, asA m), (5, .one .emp), (7, .one (.ptr 7 1 0 0)), (12, asA l), (13, .one (.lit (.int .i64 l.length))), (14, .one (.lit (.int .i64 i))), (18, asA m), (19, .one (.lit (.int .i64 m.length))), (20, .one (.lit (.int .i64 p.1)))], mkH [(7, ⟨1, some ⟨[aC x], 6, true⟩⟩)]⟩
       | q :: L => ⟨mkV [(1, asA m), (5, .one (.own 43 1 6 0 (q :: L).length)), (7, .one (.ptr 7 1 0 0)), (12, asA l), (13, .one (.lit (.int .i64 l.length))), (14, .one (.lit (.int .i64 i))), (18, asA m), (19, .one (.lit (.int .i64 m.length))), (20, .one (.lit (.int .i64 p.1)))], mkH [(7, ⟨1, some ⟨[aC x], 6, true⟩⟩), (43, ⟨1, some ⟨((q :: L).map acan).map aC, 6, true⟩⟩)]⟩)
      (fun p => p.1 ≤ m.length ∧ p.2 = meetL (vals (l.take i)) (vals m) ++ (vals (m.take p.1)).flatMap (meet1 (av x)) ∧ p.2.length ≤ i * 1000 + p.1) (fun p => m.length - p.1) (0, meetL (vals (l.take i)) (vals m)) ?_ ?_ ?_
     ·rw [← hL]
      refine weak_lit (by simp [okS, okV, okC, okL, okH, okB, okE, mkV_cons, mkV_nil, mkH_cons, mkH_nil, wsA, ws, asA, as]) ?_
      first | exact ⟨okB_a1, trivial⟩ | exact ⟨okB_a1, okB_a (l' := (q0 :: L0).map acan) rfl, trivial⟩
     ·exact ⟨Nat.zero_le _, by simp [vals], by rw [← hL]; exact hLlen⟩
     ·rintro ⟨j, M⟩ ⟨hj, hM, hMl⟩
      simp only at hj hM hMl
      by_cases hltj : j < m.length
      ·obtain ⟨y, hy⟩ : ∃ y, m.getD j a0 = y := ⟨_, rfl⟩
       have hy0 : m[j]? = some y := by rw [← hy, List.getD_eq_getElem?_getD, List.getElem?_eq_getElem hltj]; rfl
       have hoy := hokm y (List.mem_of_getElem? hy0)
       have hy1 : rl y.1 ≤ 1000000000 := Nat.le_trans (Nat.le_max_left _ _) hoy.2
       have hy2 : rl y.2 ≤ 1000000000 := Nat.le_trans (Nat.le_max_right _ _) hoy.2
       have hy1' : rl y.1 ≤ 4294967296 := by omega
       have hy2' : rl y.2 ≤ 4294967296 := by omega
       have hy3 := hoy.1.1
       have hy4 := hoy.1.2
       have rf : rz (if rv y.1 ≤ rv x.1 then rv x.1 else rv y.1) ≤ 4294967296 := Nat.le_trans (rz_mx rx1 (Nat.le_trans (rz_rv hy3) hy1)) (by decide)
       have rt : rz (if rv x.2 ≤ rv y.2 then rv x.2 else rv y.2) ≤ 4294967296 := Nat.le_trans (rz_mn rx2 (Nat.le_trans (rz_rv hy4) hy2)) (by decide)
       generalize hf : (if rv y.1 ≤ rv x.1 then rv x.1 else rv y.1) = fr at *
       generalize ht : (if rv x.2 ≤ rv y.2 then rv x.2 else rv y.2) = tt at *
       have hm1 : meet1 (av x) (av y) = not1 fr tt := by rw [← hf, ← ht]; rfl
       have hstep : (vals (m.take (j + 1))).flatMap (meet1 (av x)) = (vals (m.take j)).flatMap (meet1 (av x)) ++ not1 fr tt := by
        rw [List.take_add_one, hy0, ← hm1]; simp [vals]
       match M, hM, hMl with
       | [], hM, hMl =>
        simp only [go_sem, hx', hn, hcm, hltj, hy, aC_eq, hx1', hx2', hx3, hx4, hy1', hy2', hy3, hy4, hf, ht, rf, rt, ordQ_lt]
        refine ⟨fun hc1 => ⟨by simp, by omega, (j + 1, [(fr, tt)]), weak_lit (by simp [okS, okV, okC, okL, okH, okB, okE, mkV_cons, mkV_nil, mkH_cons, mkH_nil, wsA, ws, asA, as]) ?_, ⟨by (try simp only); omega, ?_, by (try simp only [List.length_cons, List.length_nil]); omega⟩, by (try simp only); omega⟩, fun hc1 => ⟨by omega, (j + 1, []), weak_lit (by simp [okS, okV, okC, okL, okH, okB, okE, mkV_cons, mkV_nil, mkH_cons, mkH_nil, wsA, ws, asA, as]) ⟨okB_a1, trivial⟩, ⟨by (try simp only); omega, ?_, by (try simp only [List.length_nil]); omega⟩, by (try simp only); omega⟩⟩
        ·refine ⟨okB_a1, okB_a (l' := ([(fr, tt)] : List Q2).map acan) ?_, trivial⟩
         simp [aC, acan]
        ·rw [hstep, ← List.append_assoc, ← hM]; unfold not1; rw [if_pos hc1]; rfl
        ·rw [hstep, ← List.append_assoc, ← hM]; unfold not1; rw [if_neg hc1]; rfl
       | q :: M, hM, hMl =>
        have hMl2 : M.length + 1 ≤ i * 1000 + j := by simpa using hMl
        simp only [go_sem, hx', hn, hcm, hltj, hy, aC_eq, hx1', hx2', hx3, hx4, hy1', hy2', hy3, hy4, hf, ht, rf, rt, ordQ_lt]
        refine ⟨fun hc1 => ⟨by simp, by omega, by omega, (j + 1, q :: (M ++ [(fr, tt)])), weak_lit (by simp [okS, okV, okC, okL, okH, okB, okE, mkV_cons, mkV_nil, mkH_cons, mkH_nil, wsA, ws, asA, as]) ?_, ⟨by (try simp only); omega, ?_, by (try simp only [List.length_cons, List.length_append, List.length_nil]); omega⟩, by (try simp only); omega⟩, fun hc1 => ⟨by omega, (j + 1, q :: M), weak_lit (by simp [okS, okV, okC, okL, okH, okB, okE, mkV_cons, mkV_nil, mkH_cons, mkH_nil, wsA, ws, asA, as]) ?_, ⟨by (try simp only); omega, ?_, by (try simp only [List.length_cons]); omega⟩, by (try simp only); omega⟩⟩
        ·refine ⟨okB_a1, okB_a (l' := (q :: (M ++ [(fr, tt)]) : List Q2).map acan) ?_, trivial⟩
         simp [aC, acan]
        ·rw [hstep, ← List.append_assoc, ← hM]; unfold not1; rw [if_pos hc1]; rfl
        ·exact ⟨okB_a1, okB_a (l' := (q :: M).map acan) rfl, trivial⟩
        ·rw [hstep, ← List.append_assoc, ← hM]; unfold not1; rw [if_neg hc1]; simp
      ·have hMM : M = meetL (vals (l.take (i + 1))) (vals m) := by
        rw [hM, hLO, ← hL, List.take_of_length_le (by omega)]
       match M, hM, hMM with
       | [], hM, hMM =>
        simp only [go_sem, hx', hn, hcm, hltj]
        exact ⟨by omega, (i + 1, []), weak_lit (by simp [okS, okV, okC, okL, okH, okB, okE, mkV_cons, mkV_nil, mkH_cons, mkH_nil, wsA, ws, asA, as]) trivial, ⟨by (try simp only); omega, hMM⟩, by (try simp only); omega⟩
       | q :: M, hM, hMM =>
        simp only [go_sem, hx', hn, hcm, hltj]
        exact ⟨by omega, (i + 1, q :: M), weak_lit (by simp [okS, okV, okC, okL, okH, okB, okE, mkV_cons, mkV_nil, mkH_cons, mkH_nil, wsA, ws, asA, as]) ⟨okB_a (l' := (q :: M).map acan) rfl, trivial⟩, ⟨by (try simp only); omega, hMM⟩, by (try simp only); omega⟩
    | q0 :: L0, hL, hLO, hLlen =>
     simp only [go_sem, hx', hn, hcm, hlt, hx, aC_eq]
     intro _
     refine wpA_loop (fun p : Nat × List Q2 => match p.2 with
       | [] => ⟨mkV [(1, asA m), (5, .one .emp), (7, .one (.ptr 7 1 0 0)), (12, asA l), (13, .one (.lit (.int .i64 l.length))), (14, .one (.lit (.int .i64 i))), (18, asA m), (19, .one (.lit (.int .i64 m.length))), (20, .one (.lit (.int .i64 p.1)))], mkH [(7, ⟨1, some ⟨[aC x], 6, true⟩⟩)]⟩
       | q :: L => ⟨mkV [(1, asA m), (5, .one (.own 43 1 6 0 (q :: L).length)), (7, .one (.ptr 7 1 0 0)), (12, asA l), (13, .one (.lit (.int .i64 l.length))), (14, .one (.lit (.int .i64 i))), (18, asA m), (19, .one (.lit (.int .i64 m.length))), (20, .one (.lit (.int .i64 p.1)))], mkH [(7, ⟨1, some ⟨[aC x], 6, true⟩⟩), (43, ⟨1, some ⟨((q :: L).map acan).map aC, 6, true⟩⟩)]⟩)
      (fun p => p.1 ≤ m.length ∧ p.2 = meetL (vals (l.take i)) (vals m) ++ (vals (m.take p.1)).flatMap (meet1 (av x)) ∧ p.2.length ≤ i * 1000 + p.1) (fun p => m.length - p.1) (0, meetL (vals (l.take i)) (vals m)) ?_ ?_ ?_
     ·rw [← hL]
      refine weak_lit (by simp [okS, okV, okC, okL, okH, okB, okE, mkV_cons, mkV_nil, mkH_cons, mkH_nil, wsA, ws, asA, as]) ?_
      first | exact ⟨okB_a1, trivial⟩ | exact ⟨okB_a1, okB_a (l' := (q0 :: L0).map acan) rfl, trivial⟩
     ·exact ⟨Nat.zero_le _, by simp [vals], by rw [← hL]; exact hLlen⟩
     ·rintro ⟨j, M⟩ ⟨hj, hM, hMl⟩
      simp only at hj hM hMl
      by_cases hltj : j < m.length
      ·obtain ⟨y, hy⟩ : ∃ y, m.getD j a0 = y := ⟨_, rfl⟩
       have hy0 : m[j]? = some y := by rw [← hy, List.getD_eq_getElem?_getD, List.getElem?_eq_getElem hltj]; rfl
       have hoy := hokm y (List.mem_of_getElem? hy0)
       have hy1 : rl y.1 ≤ 1000000000 := Nat.le_trans (Nat.le_max_left _ _) hoy.2
       have hy2 : rl y.2 ≤ 1000000000 := Nat.le_trans (Nat.le_max_right _ _) hoy.2
       have hy1' : rl y.1 ≤ 4294967296 := by omega
       have hy2' : rl y.2 ≤ 4294967296 := by omega
       have hy3 := hoy.1.1
       have hy4 := hoy.1.2
       have rf : rz (if rv y.1 ≤ rv x.1 then rv x.1 else rv y.1) ≤ 4294967296 := Nat.le_trans (rz_mx rx1 (Nat.le_trans (rz_rv hy3) hy1)) (by decide)
       have rt : rz (if rv x.2 ≤ rv y.2 then rv x.2 else rv y.2) ≤ 4294967296 := Nat.le_trans (rz_mn rx2 (Nat.le_trans (rz_rv hy4) hy2)) (by decide)
       generalize hf : (if rv y.1 ≤ rv x.1 then rv x.1 else rv y.1) = fr at *
       generalize ht : (if rv x.2 ≤ rv y.2 then rv x.2 else rv y.2) = tt at *
       have hm1 : meet1 (av x) (av y) = not1 fr tt := by rw [← hf, ← ht]; rfl
       have hstep : (vals (m.take (j + 1))).flatMap (meet1 (av x)) = (vals (m.take j)).flatMap (meet1 (av x)) ++ not1 fr tt := by
        rw [List.take_add_one, hy0, ← hm1]; simp [vals]
       match M, hM, hMl with
       | [], hM, hMl =>
        simp only [go_sem, hx', hn, hcm, hltj, hy, aC_eq, hx1', hx2', hx3, hx4, hy1', hy2', hy3, hy4, hf, ht, rf, rt, ordQ_lt]
        refine ⟨fun hc1 => ⟨by simp, by omega, (j + 1, [(fr, tt)]), weak_lit (by simp [okS, okV, okC, okL, okH, okB, okE, mkV_cons, mkV_nil, mkH_cons, mkH_nil, wsA, ws, asA, as]) ?_, ⟨by (try simp only); omega, ?_, by (try simp only [List.length_cons, List.length_nil]); omega⟩, by (try simp only); omega⟩, fun hc1 => ⟨by omega, (j + 1, []), weak_lit (by simp [okS, okV, okC, okL, okH, okB, okE, mkV_cons, mkV_nil, mkH_cons, mkH_nil, wsA, ws, asA, as]) ⟨okB_a1, trivial⟩, ⟨by (try simp only); omega, ?_, by (try simp only [List.length_nil]); omega⟩, by (try simp only); omega⟩⟩
        ·refine ⟨okB_a1, okB_a (l' := ([(fr, tt)] : List Q2).map acan) ?_, trivial⟩
         simp [aC, acan]
        ·rw [hstep, ← List.append_assoc, ← hM]; unfold not1; rw [if_pos hc1]; rfl
        ·rw [hstep, ← List.append_assoc, ← hM]; unfold not1; rw [if_neg hc1]; rfl
       | q :: M, hM, hMl =>
        have hMl2 : M.length + 1 ≤ i * 1000 + j := by simpa using hMl
        simp only [go_sem, hx', hn, hcm, hltj, hy, aC_eq, hx1', hx2', hx3, hx4, hy1', hy2', hy3, hy4, hf, ht, rf, rt, ordQ_lt]
        refine ⟨fun hc1 => ⟨by simp, by omega, by omega, (j + 1, q :: (M ++ [(fr, tt)])), weak_lit (by simp [okS, okV, okC, okL, okH, okB, okE, mkV_cons, mkV_nil, mkH_cons, mkH_nil, wsA, ws, asA, as]) ?_, ⟨by (try simp only); omega, ?_, by (try simp only [List.length_cons, List.length_append, List.length_nil]); omega⟩, by (try simp only); omega⟩, fun hc1 => ⟨by omega, (j + 1, q :: M), weak_lit (by simp [okS, okV, okC, okL, okH, okB, okE, mkV_cons, mkV_nil, mkH_cons, mkH_nil, wsA, ws, asA, as]) ?_, ⟨by (try simp only); omega, ?_, by (try simp only [List.length_cons]); omega⟩, by (try simp only); omega⟩⟩
        ·refine ⟨okB_a1, okB_a (l' := (q :: (M ++ [(fr, tt)]) : List Q2).map acan) ?_, trivial⟩
         simp [aC, acan]
        ·rw [hstep, ← List.append_assoc, ← hM]; unfold not1; rw [if_pos hc1]; rfl
        ·exact ⟨okB_a1, okB_a (l' := (q :: M).map acan) rfl, trivial⟩
        ·rw [hstep, ← List.append_assoc, ← hM]; unfold not1; rw [if_neg hc1]; simp
      ·have hMM : M = meetL (vals (l.take (i + 1))) (vals m) := by
        rw [hM, hLO, ← hL, List.take_of_length_le (by omega)]
       match M, hM, hMM with
       | [], hM, hMM =>
        simp only [go_sem, hx', hn, hcm, hltj]
        exact ⟨by omega, (i + 1, []), weak_lit (by simp [okS, okV, okC, okL, okH, okB, okE, mkV_cons, mkV_nil, mkH_cons, mkH_nil, wsA, ws, asA, as]) trivial, ⟨by (try simp only); omega, hMM⟩, by (try simp only); omega⟩
       | q :: M, hM, hMM =>
        simp only [go_sem, hx', hn, hcm, hltj]
        exact ⟨by omega, (i + 1, q :: M), weak_lit (by simp [okS, okV, okC, okL, okH, okB, okE, mkV_cons, mkV_nil, mkH_cons, mkH_nil, wsA, ws, asA, as]) ⟨okB_a (l' := (q :: M).map acan) rfl, trivial⟩, ⟨by (try simp only); omega, hMM⟩, by (try simp only); omega⟩
   ·rw [List.take_of_length_le (by omega)] at hL
    rw [← hL] at hK
    match L, hL, hK with
    | [], hL, hK =>
     simp only [go_sem, hx', hn, hcm, hlt]
     exact hK
    | q :: L, hL, hK =>
     simp only [go_sem, hx', hn, hcm, hlt, List.length_append]
     have e2 : aC (acan q) :: List.map aC (List.map acan L) = ((q :: L).map acan).map aC := rfl
     rw [e2]
     simp only [go_sem]
     exact hK
end Go.Abs
end
section
set_option linter.unusedVariables false
set_option linter.unusedSimpArgs false
set_option maxRecDepth 100000
namespace Go.Num
def res (c : Nat) (L : List Q2) : List Q2 := if c = 0 then lim64 L else []
def cod (c : Nat) (L : List Q2) : Nat := if c = 0 then code64 L else c
theorem chk_2 {l k : List Arc} (h : chk [l, k] = 0) : chk [l] = 0 ∧ chk [k] = 0 := by
 unfold chk at h
 split at h
 ·contradiction
 ·rename_i h1
  exact ⟨by rw [chk_1]; simpa using h1, h⟩
theorem chk_20 {l k : List Arc} (h : chk [l] = 0) (h' : chk [k] = 0) : chk [l, k] = 0 := by
 rw [chk_1] at h
 unfold chk
 rw [if_neg (by simp [h])]; exact h'
theorem vals_append (l k : List Arc) : vals (l ++ k) = vals l ++ vals k := by simp [vals]
theorem posA_append {l k : List Arc} (h : PosA l) (h' : PosA k) : PosA (l ++ k) := fun x hx => (List.mem_append.1 hx).elim (h x) (h' x)
theorem pos_of_posA {l : List Arc} (h : PosA l) : Pos (vals l) := fun a ha => by
 obtain ⟨x, hx, rfl⟩ := List.mem_map.1 ha; exact h x hx
end Go.Num
namespace Go.Abs
open Go.Num
variable {P : Program} {Γ : Nat → Spec}
def cUnion_G (tE m : Nat) (l : List AV) (K : AV → Prop) : Prop :=
 match l with
 | [a, b] => onAs (fun l => onAs (fun k => (chk [l, k] = 0 → l.length + k.length ≤ m) ∧ okAs 10000000 l ∧ okAs 10000000 k ∧ K (.tup [.one (.slice (((res (chk [l, k]) (nrm (vals l ++ vals k))).map acan).map aC)), errV tE (cod (chk [l, k]) (nrm (vals l ++ vals k)))])) b) a
 | _ => False
theorem cUnion_Ge (tE m : Nat) (a b : AV) (K : AV → Prop) : cUnion_G tE m [a, b] K = (onAs (fun l => onAs (fun k => (chk [l, k] = 0 → l.length + k.length ≤ m) ∧ okAs 10000000 l ∧ okAs 10000000 k ∧ K (.tup [.one (.slice (((res (chk [l, k]) (nrm (vals l ++ vals k))).map acan).map aC)), errV tE (cod (chk [l, k]) (nrm (vals l ++ vals k)))])) b) a) := propext Iff.rfl
@[congr] theorem cUnion_Gc (tE m : Nat) {K : AV → Prop} {l l' : List AV} (h : l = l') : cUnion_G tE m l K = cUnion_G tE m l' K := by subst h; rfl
attribute [go_sem] cUnion_Ge
attribute [go_sem ↓] cUnion_Ge
theorem cUnion_good (tE m : Nat) : Good (cUnion_G tE m) := good_of fun as => by
 unfold cUnion_G
 split
 ·exact (g_onAs fun _ => (g_onAs fun _ => (.and fun _ => (.and fun _ => (.and fun _ => (.ret _))))))
 ·exact .of fun K hk => hk.elim
def cMeet_G (tE m : Nat) (l : List AV) (K : AV → Prop) : Prop :=
 match l with
 | [a, b] => onAs (fun l => onAs (fun k => (chk [l, k] = 0 → l.length ≤ m ∧ k.length ≤ m) ∧ okAs 10000000 l ∧ okAs 10000000 k ∧ K (.tup [.one (.slice (((res (chk [l, k]) (meetL (nrm (vals l)) (nrm (vals k)))).map acan).map aC)), errV tE (cod (chk [l, k]) (meetL (nrm (vals l)) (nrm (vals k))))])) b) a
 | _ => False
theorem cMeet_Ge (tE m : Nat) (a b : AV) (K : AV → Prop) : cMeet_G tE m [a, b] K = (onAs (fun l => onAs (fun k => (chk [l, k] = 0 → l.length ≤ m ∧ k.length ≤ m) ∧ okAs 10000000 l ∧ okAs 10000000 k ∧ K (.tup [.one (.slice (((res (chk [l, k]) (meetL (nrm (vals l)) (nrm (vals k)))).map acan).map aC)), errV tE (cod (chk [l, k]) (meetL (nrm (vals l)) (nrm (vals k))))])) b) a) := propext Iff.rfl
@[congr] theorem cMeet_Gc (tE m : Nat) {K : AV → Prop} {l l' : List AV} (h : l = l') : cMeet_G tE m l K = cMeet_G tE m l' K := by subst h; rfl
attribute [go_sem] cMeet_Ge
attribute [go_sem ↓] cMeet_Ge
theorem cMeet_good (tE m : Nat) : Good (cMeet_G tE m) := good_of fun as => by
 unfold cMeet_G
 split
 ·exact (g_onAs fun _ => (g_onAs fun _ => (.and fun _ => (.and fun _ => (.and fun _ => (.ret _))))))
 ·exact .of fun K hk => hk.elim
def cNot_G (tE m : Nat) (l : List AV) (K : AV → Prop) : Prop :=
 match l with
 | [a] => onAs (fun l => (chk [l] = 0 → l.length ≤ m) ∧ okAs 10000000 l ∧ K (.tup [.one (.slice (((res (chk [l]) (notL (nrm (vals l)))).map acan).map aC)), errV tE (cod (chk [l]) (notL (nrm (vals l))))])) a
 | _ => False
theorem cNot_Ge (tE m : Nat) (a : AV) (K : AV → Prop) : cNot_G tE m [a] K = (onAs (fun l => (chk [l] = 0 → l.length ≤ m) ∧ okAs 10000000 l ∧ K (.tup [.one (.slice (((res (chk [l]) (notL (nrm (vals l)))).map acan).map aC)), errV tE (cod (chk [l]) (notL (nrm (vals l))))])) a) := propext Iff.rfl
@[congr] theorem cNot_Gc (tE m : Nat) {K : AV → Prop} {l l' : List AV} (h : l = l') : cNot_G tE m l K = cNot_G tE m l' K := by subst h; rfl
attribute [go_sem] cNot_Ge
attribute [go_sem ↓] cNot_Ge
theorem cNot_good (tE m : Nat) : Good (cNot_G tE m) := good_of fun as => by
 unfold cNot_G
 split
 ·exact (g_onAs fun _ => (.and fun _ => (.and fun _ => (.ret _))))
 ·exact .of fun K hk => hk.elim
def ac_chart_Union (f0 f1 f2 f3 : Nat) : AC := (.seq (.ops false [.m 4 (.c (.one .emp)), .m 5 (.c (.one (.lit .nilIface)))])
 (.fg [0, 1] (.seq (.seq (.ops false [.m 7 (.t 0), .m 8 (.t 1), .u 9 (.row 1 [[.x 1 (.t 7)], [.x 1 (.t 8)]]), .u 10 (.call f0 [(.t 9)]), .m 6 (.t 10)])
 (.fg [0, 1, 6] (.seq (.ops false [.m 11 (.t 6), .u 12 (.binn .neq (.t 11) (.c (.one (.lit .nilIface))))])
 (.fg [0, 1, 6, 12] (.cond (.t 12) (.seq (.ops false [.m 13 (.t 6), .m 4 (.c (.one .emp)), .m 5 (.t 13)])
 .ret) .skip)))))
 (.fg [0, 1] (.seq (.ops false [.m 14 (.t 0), .u 15 (.callf f1 [(.t 14)]), .m 16 (.t 1), .u 17 (.app 6 (.t 15) (.t 16)), .u 18 (.call f2 [(.t 17)]), .u 19 (.call f3 [(.t 18)]), .u 20 (.ext 0 (.t 19)), .u 21 (.ext 1 (.t 19)), .m 4 (.t 20), .m 5 (.t 21)])
 .ret)))))
def ac_chart_Meet (f0 f1 f2 f3 : Nat) : AC := (.seq (.ops false [.m 4 (.c (.one .emp)), .m 5 (.c (.one (.lit .nilIface)))])
 (.fg [0, 1] (.seq (.seq (.ops false [.m 7 (.t 0), .m 8 (.t 1), .u 9 (.row 1 [[.x 1 (.t 7)], [.x 1 (.t 8)]]), .u 10 (.call f0 [(.t 9)]), .m 6 (.t 10)])
 (.fg [0, 1, 6] (.seq (.ops false [.m 11 (.t 6), .u 12 (.binn .neq (.t 11) (.c (.one (.lit .nilIface))))])
 (.fg [0, 1, 6, 12] (.cond (.t 12) (.seq (.ops false [.m 13 (.t 6), .m 4 (.c (.one .emp)), .m 5 (.t 13)])
 .ret) .skip)))))
 (.fg [0, 1] (.seq (.ops false [.m 14 (.t 0), .u 15 (.call f1 [(.t 14)]), .m 16 (.t 1), .u 17 (.call f1 [(.t 16)]), .u 18 (.call f2 [(.t 15), (.t 17)]), .u 19 (.call f3 [(.t 18)]), .u 20 (.ext 0 (.t 19)), .u 21 (.ext 1 (.t 19)), .m 4 (.t 20), .m 5 (.t 21)])
 .ret)))))
def ac_chart_Not (f0 f1 f2 f3 : Nat) : AC := (.seq (.ops false [.m 2 (.c (.one .emp)), .m 3 (.c (.one (.lit .nilIface)))])
 (.fg [0] (.seq (.seq (.ops false [.m 5 (.t 0), .u 6 (.row 1 [[.x 1 (.t 5)]]), .u 7 (.call f0 [(.t 6)]), .m 4 (.t 7)])
 (.fg [0, 4] (.seq (.ops false [.m 8 (.t 4), .u 9 (.binn .neq (.t 8) (.c (.one (.lit .nilIface))))])
 (.fg [0, 4, 9] (.cond (.t 9) (.seq (.ops false [.m 10 (.t 4), .m 2 (.c (.one .emp)), .m 3 (.t 10)])
 .ret) .skip)))))
 (.fg [0] (.seq (.ops false [.m 11 (.t 0), .u 12 (.call f1 [(.t 11)]), .u 13 (.call f2 [(.t 12)]), .u 14 (.call f3 [(.t 13)]), .u 15 (.ext 0 (.t 14)), .u 16 (.ext 1 (.t 14)), .m 2 (.t 15), .m 3 (.t 16)])
 .ret)))))
theorem dat_errV (h : Nat → HB) (tE c : Nat) : datA h (errV tE c) = errV tE c := eq_of_heq (HEq.refl _)
attribute [go_sem] dat_errV
theorem lim_fin {tE : Nat} {L : List Q2} {K : AV → Prop} (h : K (.tup [.one (.slice (((res 0 L).map acan).map aC)), errV tE (cod 0 L)])) : K (.tup [.one (.slice ((if 64 < (L.map acan).length then [] else L.map acan).map aC)), errV tE (if 64 < (L.map acan).length then 4 else 0)]) := by
 unfold res cod lim64 code64 at h
 rw [if_pos rfl, if_pos rfl] at h
 rw [List.length_map]
 split
 ·rename_i h1; rw [if_pos h1, if_pos h1] at h; exact h
 ·rename_i h1; rw [if_neg h1, if_neg h1] at h; exact h
theorem cUnion_sound (hΓ : Holds P Γ) {f fk fl fn fm tE m : Nat} (hm : m ≤ 1000) (hk : Γ fk = .dat false (ccheck_G tE)) (hl : Γ fl = .fresh 6 clone_G) (hn : Γ fn = .dat false (cnorm_G m)) (hli : Γ fm = .dat false (climit_G tE)) (hc : check P f = some (22, (ac_chart_Union fk fl fn fm).strip, [.tmp 4, .tmp 5])) : Sound P f (.dat false (cUnion_G tE m)) := by
 refine sound_dat hc (cUnion_good tE m) hΓ (fun args K hcl hfi hG => ?_)
 match args, hG with
 | [a, b], hG =>
  obtain ⟨l, rfl, hwl, k, rfl, hwk, hlm, hok, hokk, hK⟩ := hG
  refine ⟨by simp, ?_⟩
  have o1 : okAs 4294967296 l := okAs_mono hok (by decide)
  have o2 : okAs 4294967296 k := okAs_mono hokk (by decide)
  have oo : ∀ z ∈ [l, k], okAs 4294967296 z := by
   intro z hz
   simp only [List.mem_cons, List.not_mem_nil, or_false] at hz
   rcases hz with rfl | rfl <;> assumption
  by_cases h0 : chk [l, k] = 0
  ·obtain ⟨h1, h2⟩ := chk_2 h0
   have hlm' := hlm h0
   rw [h0] at hK
   have hfin := lim_fin hK
   rw [← vals_append, List.length_map] at hfin
   simp only [go_sem, ac_chart_Union, hk, hl, hn, hli, h0, errV_0, List.length_append]
   exact ⟨⟨hwl, hwk⟩, oo, hwl, by omega, by omega, (fun z hz => (List.mem_append.1 hz).elim (hwl z) (hwk z)), by omega, okAs_append.2 ⟨o1, o2⟩, posA_append (chk_pos h1) (chk_pos h2), WLA_cans _, hfin⟩
  ·simp only [res, cod, h0, if_false, errV_s tE h0, List.map_nil] at hK
   simp only [go_sem, ac_chart_Union, hk, hl, hn, hli, h0, errV_s tE h0]
   exact ⟨⟨hwl, hwk⟩, oo, hK⟩
theorem cMeet_sound (hΓ : Holds P Γ) {f fk fn fe fm tE m : Nat} (hm : m ≤ 1000) (hk : Γ fk = .dat false (ccheck_G tE)) (hn : Γ fn = .dat false (cnorm_G m)) (he : Γ fe = .dat false cmeet_G) (hli : Γ fm = .dat false (climit_G tE)) (hc : check P f = some (22, (ac_chart_Meet fk fn fe fm).strip, [.tmp 4, .tmp 5])) : Sound P f (.dat false (cMeet_G tE m)) := by
 refine sound_dat hc (cMeet_good tE m) hΓ (fun args K hcl hfi hG => ?_)
 match args, hG with
 | [a, b], hG =>
  obtain ⟨l, rfl, hwl, k, rfl, hwk, hlm, hok, hokk, hK⟩ := hG
  refine ⟨by simp, ?_⟩
  have o1 : okAs 4294967296 l := okAs_mono hok (by decide)
  have o2 : okAs 4294967296 k := okAs_mono hokk (by decide)
  have oo : ∀ z ∈ [l, k], okAs 4294967296 z := by
   intro z hz
   simp only [List.mem_cons, List.not_mem_nil, or_false] at hz
   rcases hz with rfl | rfl <;> assumption
  by_cases h0 : chk [l, k] = 0
  ·obtain ⟨h1, h2⟩ := chk_2 h0
   obtain ⟨hlm1, hlm2⟩ := hlm h0
   rw [h0] at hK
   have hfin := lim_fin hK
   rw [List.length_map] at hfin
   have n1 := nrm_len (vals l)
   have n2 := nrm_len (vals k)
   simp only [vals, List.length_map] at n1 n2
   simp only [go_sem, ac_chart_Meet, hk, hn, he, hli, h0, errV_0, vals_can]
   exact ⟨⟨hwl, hwk⟩, oo, hwl, hlm1, o1, chk_pos h1, hwk, hlm2, o2, chk_pos h2, WLA_cans _, WLA_cans _, by simp only [vals]; omega, by simp only [vals]; omega, okAs_mono (okAs_nrm hok) (by decide), okAs_mono (okAs_nrm hokk) (by decide), WLA_cans _, hfin⟩
  ·simp only [res, cod, h0, if_false, errV_s tE h0, List.map_nil] at hK
   simp only [go_sem, ac_chart_Meet, hk, hn, he, hli, h0, errV_s tE h0]
   exact ⟨⟨hwl, hwk⟩, oo, hK⟩
theorem cNot_sound (hΓ : Holds P Γ) {f fk fn fe fm tE m : Nat} (hm : m ≤ 1000) (hk : Γ fk = .dat false (ccheck_G tE)) (hn : Γ fn = .dat false (cnorm_G m)) (he : Γ fe = .dat false cnot_G) (hli : Γ fm = .dat false (climit_G tE)) (hc : check P f = some (17, (ac_chart_Not fk fn fe fm).strip, [.tmp 2, .tmp 3])) : Sound P f (.dat false (cNot_G tE m)) := by
 refine sound_dat hc (cNot_good tE m) hΓ (fun args K hcl hfi hG => ?_)
 match args, hG with
 | [a], hG =>
  obtain ⟨l, rfl, hwl, hlm, hok, hK⟩ := hG
  refine ⟨by simp, ?_⟩
  have o1 : okAs 4294967296 l := okAs_mono hok (by decide)
  have oo : ∀ z ∈ [l], okAs 4294967296 z := by
   intro z hz
   rw [List.mem_singleton] at hz; subst hz; exact o1
  by_cases h0 : chk [l] = 0
  ·have hlm' := hlm h0
   rw [h0] at hK
   have hfin := lim_fin hK
   rw [List.length_map] at hfin
   have n1 := nrm_len (vals l)
   simp only [vals, List.length_map] at n1
   simp only [go_sem, ac_chart_Not, hk, hn, he, hli, h0, errV_0, vals_can]
   exact ⟨hwl, oo, hwl, hlm', o1, chk_pos h0, WLA_cans _, by simp only [vals]; omega, okAs_mono (okAs_nrm hok) (by decide), WLA_cans _, hfin⟩
  ·simp only [res, cod, h0, if_false, errV_s tE h0, List.map_nil] at hK
   simp only [go_sem, ac_chart_Not, hk, hn, he, hli, h0, errV_s tE h0]
   exact ⟨hwl, oo, hK⟩
end Go.Abs
end
section
set_option linter.unusedVariables false
set_option linter.unusedSimpArgs false
set_option maxRecDepth 100000
namespace Go.Abs
open Go.Num
variable {P : Program} {Γ : Nat → Spec}
theorem errV_inj (tE : Nat) (c d : Nat) (h : errV tE c = errV tE d) : c = d := by
 by_cases hc : c = 0 <;> by_cases hd : d = 0
 ·omega
 ·subst hc; rw [errV_0, errV_s tE hd] at h; simp at h
 ·subst hd; rw [errV_0, errV_s tE hc] at h; simp at h
 ·rw [errV_s tE hc, errV_s tE hd] at h
  simp only [AV.one.injEq, C.lit.injEq, Value.iface.injEq, Value.int.injEq, true_and] at h
  omega
def onErr (tE : Nat) (k : Nat → Prop) (a : AV) : Prop := onE (errV tE) k a
@[congr] theorem onErr_cg {tE : Nat} {k : Nat → Prop} {a a' : AV} (h : a = a') : onErr tE k a = onErr tE k a' := by subst h; rfl
theorem onErr_e (tE : Nat) (k : Nat → Prop) (c : Nat) : onErr tE k (errV tE c) = k c := onE_e (errV_inj tE) k c
theorem onErr_0 (tE : Nat) (k : Nat → Prop) : onErr tE k (.one (.lit .nilIface)) = k 0 := by
 have := onErr_e tE k 0
 rw [errV_0] at this; exact this
theorem g_onErr {β : Type} {tE : Nat} {T : Nat → (β → Prop) → Prop} (h : ∀ x, GoodT (T x)) {a : AV} : GoodT fun K => onErr tE (fun x => T x K) a :=
 g_onE (e := errV tE) (T := T) (errV_inj tE) h
attribute [go_sem] onErr_e onErr_0
attribute [go_sem ↓] onErr_e onErr_0
def bnum_G (tE : Nat) (l : List AV) (K : AV → Prop) : Prop :=
 match l with
 | [a] => onErr tE (fun c => K (.one (.lit (.int .i64 (c : Nat))))) a
 | _ => False
theorem bnum_Ge (tE : Nat) (a : AV) (K : AV → Prop) : bnum_G tE [a] K = (onErr tE (fun c => K (.one (.lit (.int .i64 (c : Nat))))) a) := propext Iff.rfl
@[congr] theorem bnum_Gc (tE : Nat) {K : AV → Prop} {l l' : List AV} (h : l = l') : bnum_G tE l K = bnum_G tE l' K := by subst h; rfl
attribute [go_sem] bnum_Ge
attribute [go_sem ↓] bnum_Ge
theorem bnum_good (tE : Nat) : Good (bnum_G tE) := good_of fun as => by
 unfold bnum_G
 split
 ·exact (g_onErr fun _ => (.ret _))
 ·exact .of fun K hk => hk.elim
def bgives_G (tE : Nat) (l : List AV) (K : AV → Prop) : Prop :=
 match l with
 | [a, e, b, n] => onAs (fun l => onErr tE (fun c => onAs (fun m => asInt (fun k n => k = .i64 ∧ okAs 1073741824 l ∧ okAs 1073741824 m ∧ K (.one (.lit (.bool (decide ((c : Int) = n) && decide (vals l = vals m)))))) n) b) e) a
 | _ => False
theorem bgives_Ge (tE : Nat) (a e b n : AV) (K : AV → Prop) : bgives_G tE [a, e, b, n] K = (onAs (fun l => onErr tE (fun c => onAs (fun m => asInt (fun k n => k = .i64 ∧ okAs 1073741824 l ∧ okAs 1073741824 m ∧ K (.one (.lit (.bool (decide ((c : Int) = n) && decide (vals l = vals m)))))) n) b) e) a) := propext Iff.rfl
@[congr] theorem bgives_Gc (tE : Nat) {K : AV → Prop} {l l' : List AV} (h : l = l') : bgives_G tE l K = bgives_G tE l' K := by subst h; rfl
attribute [go_sem] bgives_Ge
attribute [go_sem ↓] bgives_Ge
theorem bgives_good (tE : Nat) : Good (bgives_G tE) := good_of fun as => by
 unfold bgives_G
 split
 ·exact (g_onAs fun _ => (g_onErr fun _ => (g_onAs fun _ => (g_asInt (fun _ _ => (.and fun _ => (.and fun _ => (.and fun _ => (.ret _))))) _))))
 ·exact .of fun K hk => hk.elim
def fhas_G (l : List AV) (K : AV → Prop) : Prop :=
 match l with
 | [a, b] => onAs (fun l => onR (fun y => okAs 1073741824 l ∧ rl y ≤ 1073741824 ∧ K (.one (.lit (.bool (l.any (inA (rv y))))))) b) a
 | _ => False
theorem fhas_Ge (a b : AV) (K : AV → Prop) : fhas_G [a, b] K = (onAs (fun l => onR (fun y => okAs 1073741824 l ∧ rl y ≤ 1073741824 ∧ K (.one (.lit (.bool (l.any (inA (rv y))))))) b) a) := propext Iff.rfl
@[congr] theorem fhas_Gc {K : AV → Prop} {l l' : List AV} (h : l = l') : fhas_G l K = fhas_G l' K := by subst h; rfl
attribute [go_sem] fhas_Ge
attribute [go_sem ↓] fhas_Ge
theorem fhas_good : Good fhas_G := good_of fun as => by
 unfold fhas_G
 split
 ·exact (g_onAs fun _ => (g_onR fun _ => (.and fun _ => (.and fun _ => (.ret _)))))
 ·exact .of fun K hk => hk.elim
def fcount_G (l : List AV) (K : AV → Prop) : Prop :=
 match l with
 | [a, b] => onL (fun L => onR (fun y => (∀ l ∈ L, okAs 1073741824 l) ∧ rl y ≤ 1073741824 ∧ L.length ≤ 1000000 ∧ K (.one (.lit (.int .i64 (L.countP (fun l => l.any (inA (rv y))) : Nat))))) b) a
 | _ => False
theorem fcount_Ge (a b : AV) (K : AV → Prop) : fcount_G [a, b] K = (onL (fun L => onR (fun y => (∀ l ∈ L, okAs 1073741824 l) ∧ rl y ≤ 1073741824 ∧ L.length ≤ 1000000 ∧ K (.one (.lit (.int .i64 (L.countP (fun l => l.any (inA (rv y))) : Nat))))) b) a) := propext Iff.rfl
@[congr] theorem fcount_Gc {K : AV → Prop} {l l' : List AV} (h : l = l') : fcount_G l K = fcount_G l' K := by subst h; rfl
attribute [go_sem] fcount_Ge
attribute [go_sem ↓] fcount_Ge
theorem fcount_good : Good fcount_G := good_of fun as => by
 unfold fcount_G
 split
 ·exact (g_onL fun _ => (g_onR fun _ => (.and fun _ => (.and fun _ => (.and fun _ => (.ret _))))))
 ·exact .of fun K hk => hk.elim
def ac_linkworkbase_Num (tE : Nat) : AC := (.seq (.ops false [.m 2 (.i 0)])
 (.fg [0] (.seq (.seq (.ops false [.m 5 (.t 0), .u 6 (.binn .eql (.t 5) (.c (.one (.lit .nilIface))))])
 (.fg [0, 6] (.cond (.t 6) (.seq (.ops false [.m 2 (.i 0)])
 .ret) .skip)))
 (.fg [0] (.seq (.ops false [.m 8 (.t 0), .u 9 (.tass tE (.one (.lit (.int .i64 0))) (.t 8)), .m 7 (.t 9), .u 10 (.ext 0 (.t 7)), .u 11 (.ext 1 (.t 7)), .m 3 (.t 10), .m 4 (.t 11)])
 (.fg [3, 4] (.seq (.seq (.ops false [.m 12 (.t 4), .u 13 (.un .not (.t 12))])
 (.fg [3, 13] (.cond (.t 13) (.seq (.ops false [.m 2 (.i (-1))])
 .ret) .skip)))
 (.fg [3] (.seq (.ops false [.m 14 (.t 3), .m 2 (.t 14)])
 .ret)))))))))
def ac_linkworklaw54_gives (f0 f1 : Nat) : AC := (.seq (.ops false [.m 8 .fa])
 (.fg [0, 1, 2, 3] (.seq (.ops false [.m 9 (.t 1), .u 10 (.call f0 [(.t 9)]), .m 11 (.t 3), .u 12 (.bin .eql (.t 10) (.t 11)), .m 13 (.t 12), .w 14 13 true (.mv (.t 0)), .w 15 13 true (.mv (.t 2)), .w 16 13 true (.call f1 [(.t 14), (.t 15)]), .u 17 (.pick (.t 13) (.t 16) .fa), .m 8 (.t 17)])
 .ret)))
def ac_linkworkref54_has (f0 : Nat) : AC := (.seq (.ops false [.u 3 (.box 3 (.t 1)), .m 4 .fa])
 (.fg [0, 3] (.seq (.seq (.ops false [.m 5 (.i 0)])
 (.fg [0, 3, 5] (.block 0 (.loop (.seq (.seq (.ops false [.m 6 (.t 5), .m 7 (.t 0), .u 8 (.len (.t 7)), .u 9 (.bin .lss (.t 6) (.t 8))])
 (.fg [0, 3, 5, 9] (.cond (.t 9) .skip (.exit 0))))
 (.fg [0, 3, 5] (.seq (.block 1 (.seq (.ops true [.m 12 (.t 0), .m 13 (.t 5), .u 14 (.idx 6 (.t 12) (.t 13)), .u 15 (.fa 0 (.t 14)), .u 16 (.ld none 3 true (.t 15)), .u 17 (.ld none 3 true (.t 3)), .u 18 (.call f0 [(.t 16), (.t 17)]), .u 19 (.bin .leq (.t 18) (.i 0)), .m 20 (.t 19), .w 21 20 true (.ld none 3 true (.t 3)), .w 22 20 true (.mv (.t 0)), .w 23 20 true (.mv (.t 5)), .w 24 20 true (.idx 6 (.t 22) (.t 23)), .w 25 20 true (.fa 3 (.t 24)), .w 26 20 true (.ld none 3 true (.t 25)), .w 27 20 true (.call f0 [(.t 21), (.t 26)]), .w 28 20 true (.bin .lss (.t 27) (.i 0)), .u 29 (.pick (.t 20) (.t 28) .fa)])
 (.fg [0, 3, 5, 29] (.cond (.t 29) (.seq (.ops false [.m 4 .tr])
 .ret) .skip))))
 (.fg [0, 3, 5] (.ops false [.m 10 (.t 5), .u 11 (.bin .add (.t 10) (.i 1)), .m 5 (.t 11)])))))))))
 (.fg [] (.seq (.ops false [.m 4 .fa])
 .ret)))))
def ac_linkworkref54_count (f0 : Nat) : AC := (.seq (.ops false [.u 3 (.box 3 (.t 1)), .m 4 (.i 0)])
 (.fg [0, 3] (.seq (.ops false [.m 5 (.i 0)])
 (.fg [0, 3, 5] (.seq (.seq (.ops false [.m 6 (.i 0)])
 (.fg [0, 3, 5, 6] (.block 0 (.loop (.seq (.seq (.ops false [.m 7 (.t 6), .m 8 (.t 0), .u 9 (.len (.t 8)), .u 10 (.bin .lss (.t 7) (.t 9))])
 (.fg [0, 3, 5, 6, 10] (.cond (.t 10) .skip (.exit 0))))
 (.fg [0, 3, 5, 6] (.seq (.block 1 (.seq (.ops true [.m 13 (.t 0), .m 14 (.t 6), .u 15 (.idx 1 (.t 13) (.t 14)), .u 16 (.ld none 1 false (.t 15)), .u 17 (.ld none 3 true (.t 3)), .u 18 (.call f0 [(.t 16), (.t 17)])])
 (.fg [0, 3, 5, 6, 18] (.cond (.t 18) (.ops false [.m 19 (.t 5), .u 20 (.bin .add (.t 19) (.i 1)), .m 5 (.t 20)]) .skip))))
 (.fg [0, 3, 5, 6] (.ops false [.m 11 (.t 6), .u 12 (.bin .add (.t 11) (.i 1)), .m 6 (.t 12)])))))))))
 (.fg [5] (.seq (.ops false [.m 21 (.t 5), .m 4 (.t 21)])
 .ret)))))))
theorem bnum_sound (hΓ : Holds P Γ) {f tE : Nat} (hc : check P f = some (15, (ac_linkworkbase_Num tE).strip, [.tmp 2])) : Sound P f (.dat true (bnum_G tE)) := by
 refine sound_dat hc (bnum_good tE) hΓ (fun args K hcl hfi hG => ?_)
 match args, hG with
 | [a], hG =>
  obtain ⟨c, rfl, hK⟩ := hG
  refine ⟨by simp, ?_⟩
  by_cases h0 : c = 0
  ·subst h0
   simp only [go_sem, ac_linkworkbase_Num, errV_0]
   exact hK
  ·simp only [go_sem, ac_linkworkbase_Num, errV_s tE h0]
   exact ⟨hK, fun h => absurd rfl h⟩
theorem bgives_sound (hΓ : Holds P Γ) {f fn fs tE : Nat} (hn : Γ fn = .dat true (bnum_G tE)) (hs : Γ fs = .dat true rsame_G) (hc : check P f = some (18, (ac_linkworklaw54_gives fn fs).strip, [.tmp 8])) : Sound P f (.dat true (bgives_G tE)) := by
 refine sound_dat hc (bgives_good tE) hΓ (fun args K hcl hfi hG => ?_)
 match args, hG with
 | [a, e, b, n], hG =>
  obtain ⟨l, rfl, hwl, c, rfl, m, rfl, hwm, hG⟩ := hG
  obtain ⟨k, n, rfl, rfl, hol, hom, hK⟩ := asInt_inv hG
  refine ⟨by simp, ?_⟩
  simp only [go_sem, ac_linkworklaw54_gives, hn, hs]
  refine ⟨fun h => ?_, fun h => ?_⟩
  ·rw [decide_eq_true h, Bool.true_and] at hK
   exact ⟨hwl, hwm, hol, hom, hK⟩
  ·rw [decide_eq_false h, Bool.false_and] at hK
   exact hK
theorem fhas_sound (hΓ : Holds P Γ) {f fc : Nat} (hcm : Γ fc = .dat true rcmp02_G) (hc : check P f = some (30, (ac_linkworkref54_has fc).strip, [.tmp 4])) : Sound P f (.dat true fhas_G) := by
 refine sound_dat hc fhas_good hΓ (fun args K hcl hfi hG => ?_)
 match args, hG with
 | [a, b], hG =>
  obtain ⟨l, rfl, hwl, y, rfl, hy, hok, hyl, hK⟩ := hG
  refine ⟨by simp, ?_⟩
  simp only [go_sem, ac_linkworkref54_has, hcm]
  refine wpA_loop (fun j : Nat => ⟨mkV [(0, asA l), (3, .one (.ptr 3 1 0 0)), (5, .one (.lit (.int .i64 j)))], mkH [(3, ⟨1, some ⟨[[cb y, cn y, cd y]], 3, true⟩⟩)]⟩) (fun j => j ≤ l.length ∧ (l.take j).any (inA (rv y)) = false) (fun j => l.length - j) 0 ?_ ?_ ?_
  ·exact weak_lit (by simp [okS, okV, okC, okL, okH, okB, okE, mkV_cons, mkV_nil, mkH_cons, mkH_nil, wsA, ws, asA, as]) ⟨okB_r, trivial⟩
  ·exact ⟨Nat.zero_le _, by simp⟩
  ·rintro j ⟨hj, hgood⟩
   by_cases hlt : j < l.length
   ·obtain ⟨x, hx⟩ : ∃ x, l.getD j a0 = x := ⟨_, rfl⟩
    have hx0 : l[j]? = some x := by rw [← hx, List.getD_eq_getElem?_getD, List.getElem?_eq_getElem hlt]; rfl
    have hox := hok x (List.mem_of_getElem? hx0)
    have hx1 : rl x.1 ≤ 1073741824 := Nat.le_trans (Nat.le_max_left _ _) hox.2
    have hx2 : rl x.2 ≤ 1073741824 := Nat.le_trans (Nat.le_max_right _ _) hox.2
    have hx3 := hox.1.1
    have hx4 := hox.1.2
    have e : (l.take (j + 1)).any (inA (rv y)) = inA (rv y) x := by
     rw [List.take_add_one, hx0, List.any_append, hgood]; simp
    simp only [go_sem, hcm, hlt, hx, aC_eq, hx1, hx2, hx3, hx4, hy, hyl]
    refine fun _ => ⟨fun h1 => ⟨fun h2 => ?_, fun h2 => ⟨by omega, j + 1, weak_lit (by simp [okS, okV, okC, okL, okH, okB, okE, mkV_cons, mkV_nil, mkH_cons, mkH_nil, wsA, ws, asA, as]) ⟨okB_r, trivial⟩, ⟨by omega, ?_⟩, by omega⟩⟩, fun h1 => ⟨by omega, j + 1, weak_lit (by simp [okS, okV, okC, okL, okH, okB, okE, mkV_cons, mkV_nil, mkH_cons, mkH_nil, wsA, ws, asA, as]) ⟨okB_r, trivial⟩, ⟨by omega, ?_⟩, by omega⟩⟩
    ·have : inA (rv y) x = true := by unfold inA; rw [decide_eq_true (ordQ_le.1 h1), decide_eq_true (ordQ_lt.1 h2)]; rfl
     rw [List.any_eq_true.2 ⟨x, List.mem_of_getElem? hx0, this⟩] at hK
     exact hK
    ·rw [e]; unfold inA; rw [decide_eq_false (fun h => h2 (ordQ_lt.2 h)), Bool.and_false]
    ·rw [e]; unfold inA; rw [decide_eq_false (fun h => h1 (ordQ_le.2 h)), Bool.false_and]
   ·have e : l.take j = l := List.take_of_length_le (by omega)
    rw [e] at hgood
    rw [hgood] at hK
    simp only [go_sem, hcm, hlt]
    exact fun _ => hK
theorem fcount_sound (hΓ : Holds P Γ) {f fh : Nat} (hh : Γ fh = .dat true fhas_G) (hc : check P f = some (22, (ac_linkworkref54_count fh).strip, [.tmp 4])) : Sound P f (.dat true fcount_G) := by
 refine sound_dat hc fcount_good hΓ (fun args K hcl hfi hG => ?_)
 match args, hG with
 | [a, b], hG =>
  obtain ⟨L, rfl, hwL, y, rfl, hy, hok, hyl, hlen, hK⟩ := hG
  refine ⟨by simp, ?_⟩
  simp only [go_sem, ac_linkworkref54_count, hh]
  refine wpA_loop (fun p : Nat × Nat => ⟨mkV [(0, lsA L), (3, .one (.ptr 3 1 0 0)), (5, .one (.lit (.int .i64 p.2))), (6, .one (.lit (.int .i64 p.1)))], mkH [(3, ⟨1, some ⟨[[cb y, cn y, cd y]], 3, true⟩⟩)]⟩) (fun p => p.1 ≤ L.length ∧ p.2 = (L.take p.1).countP (fun l => l.any (inA (rv y)))) (fun p => L.length - p.1) (0, 0) ?_ ?_ ?_
  ·exact weak_lit (by simp [okS, okV, okC, okL, okH, okB, okE, mkV_cons, mkV_nil, mkH_cons, mkH_nil, wsA, ws, lsA]) ⟨okB_r, trivial⟩
  ·exact ⟨Nat.zero_le _, by simp⟩
  ·rintro ⟨j, n⟩ ⟨hj, hn⟩
   simp only at hj hn
   have hnl : n ≤ j := by rw [hn]; exact Nat.le_trans List.countP_le_length (by rw [List.length_take]; omega)
   by_cases hlt : j < L.length
   ·obtain ⟨l, hl⟩ : ∃ l, L.getD j [] = l := ⟨_, rfl⟩
    have hl0 : L[j]? = some l := by rw [← hl, List.getD_eq_getElem?_getD, List.getElem?_eq_getElem hlt]; rfl
    have hlm := List.mem_of_getElem? hl0
    have e : (L.take (j + 1)).countP (fun l => l.any (inA (rv y))) = n + (if l.any (inA (rv y)) then 1 else 0) := by
     rw [List.take_add_one, hl0, Option.toList_some, List.countP_append, ← hn, List.countP_singleton]
    cases hb : l.any (inA (rv y)) with
    | true =>
     rw [hb] at e
     simp only [go_sem, hh, hlt, hl, hy, hyl, hb]
     exact fun _ => ⟨hwL l hlm, hok l hlm, by omega, by omega, (j + 1, n + 1), weak_lit (by simp [okS, okV, okC, okL, okH, okB, okE, mkV_cons, mkV_nil, mkH_cons, mkH_nil, wsA, ws, lsA]) ⟨okB_r, trivial⟩, ⟨by (try simp only); omega, by simp only; rw [e]; rfl⟩, by (try simp only); omega⟩
    | false =>
     rw [hb] at e
     simp only [go_sem, hh, hlt, hl, hy, hyl, hb]
     exact fun _ => ⟨hwL l hlm, hok l hlm, by omega, (j + 1, n), weak_lit (by simp [okS, okV, okC, okL, okH, okB, okE, mkV_cons, mkV_nil, mkH_cons, mkH_nil, wsA, ws, lsA]) ⟨okB_r, trivial⟩, ⟨by (try simp only); omega, by simp only; rw [e]; rfl⟩, by (try simp only); omega⟩
   ·have e : L.take j = L := List.take_of_length_le (by omega)
    rw [e] at hn
    rw [← hn] at hK
    simp only [go_sem, hh, hlt]
    exact fun _ => hK
end Go.Abs
end
section
set_option linter.unusedVariables false
namespace Go.Abs
open Go.Num
def rC (x : R) : List C := [cb x, cn x, cd x]
theorem rC_eq (x : R) : rC x = [cb x, cn x, cd x] := eq_of_heq (HEq.refl _)
theorem len_rC (x : R) : (rC x).length = 3 := eq_of_heq (HEq.refl _)
theorem getE_rC (K : List C → Prop) (L : List R) (i : Nat) : getE K (L.map rC) i = (i < L.length ∧ K (rC (L.getD i (rcan 0)))) := by
 simp only [getE, List.length_map, List.getElem?_map]
 refine propext ⟨fun h => ⟨h.1, h.2 _ (by simp [h.1, List.getD_eq_getElem?_getD])⟩, fun h => ⟨h.1, fun e he => ?_⟩⟩
 simp [h.1] at he
 subst he
 have := h.2
 simpa [List.getD_eq_getElem?_getD, h.1] using this
theorem clean_rC (l : List R) : CleanR (l.map rC) = True := eq_true fun e he c hc => by
 obtain ⟨x, _, rfl⟩ := List.mem_map.1 he
 exact clean_ref3 x c hc
theorem all_rC (L : List R) : (∀ e ∈ L.map rC, e.length = 3) = True := eq_true fun e he => by
 obtain ⟨l, _, rfl⟩ := List.mem_map.1 he; rfl
theorem dats_rC (h : Nat → HB) (L : List R) : (L.map rC).map (fun x => x.map (datC h)) = L.map rC := by
 rw [List.map_map]; exact List.map_congr_left fun x _ => rfl
theorem owns_rC (L : List R) : (L.map rC).flatMap (fun x => x.flatMap ownC) = [] := by
 rw [List.flatMap_map]; exact List.flatMap_eq_nil_iff.2 fun x _ => rfl
theorem dats_lC (h : Nat → HB) (L : List (List Arc)) : (L.map lC).map (fun x => x.map (datC h)) = L.map lC := by
 rw [List.map_map]; exact List.map_congr_left fun x _ => rfl
theorem owns_lC (L : List (List Arc)) : (L.map lC).flatMap (fun x => x.flatMap ownC) = [] := by
 rw [List.flatMap_map]; exact List.flatMap_eq_nil_iff.2 fun x _ => rfl
theorem frz_nil (h : Nat → HB) : frz [] h = h := eq_of_heq (HEq.refl _)
attribute [go_sem] len_rC getE_rC clean_rC all_rC dats_rC owns_rC dats_lC owns_lC frz_nil
attribute [go_sem ↓] len_rC getE_rC clean_rC all_rC dats_rC owns_rC dats_lC owns_lC frz_nil
theorem okB_rC {h h' : Nat → HB} {z : Nat} {b : Bool} {es : List (List C)} {S : List R} (e : es = S.map rC) : okB h h' (some ⟨es, z, b⟩) (some ⟨S.map rC, z, b⟩) := by
 subst e
 exact ⟨⟨rfl, rfl⟩, .inl ⟨rfl, of_eq_true (clean_rC S)⟩⟩
theorem app_rC (S : List R) (x : R) : S.map rC ++ [[cb x, cn x, cd x]] = (S ++ [x]).map rC := by simp [rC]
end Go.Abs
end
section
set_option linter.unusedVariables false
set_option linter.unusedSimpArgs false
set_option maxRecDepth 100000
namespace Go.Num
def posR : List R → Rat → Nat
 | [], _ => 0
 | x :: l, q => if rv x < q then posR l q + 1 else 0
def insR (l : List R) (y : R) : List R := if (l.drop (posR l (rv y))).head?.map rv = some (rv y) then l else l.take (posR l (rv y)) ++ y :: l.drop (posR l (rv y))
def okRs (b : Nat) (l : List R) : Prop := ∀ x ∈ l, WLR x ∧ rl x ≤ b
theorem posR_le : ∀ (l : List R) (q : Rat), posR l q ≤ l.length
 | [], _ => Nat.le_refl _
 | x :: l, q => by
  have := posR_le l q
  simp only [posR]; split <;> simp only [List.length_cons] <;> omega
theorem posR_at : ∀ (l : List R) (q : Rat) (i : Nat), i ≤ posR l q → i < l.length → (rv (l.getD i (rcan 0)) < q ↔ i < posR l q)
 | [], q, i, _, h => by simp at h
 | x :: l, q, 0, _, _ => by
  simp only [posR, List.getD_cons_zero]
  by_cases h : rv x < q
  ·rw [if_pos h]; simp [h]
  ·rw [if_neg h]; simp [h]
 | x :: l, q, i + 1, h1, h2 => by
  simp only [posR] at h1 ⊢
  by_cases h : rv x < q
  ·rw [if_pos h] at h1 ⊢
   have := posR_at l q i (by omega) (by simpa using h2)
   simp only [List.getD_cons_succ]
   rw [this]; omega
  ·rw [if_neg h] at h1; omega
def insA (S : List R) (x : Arc) : List R := insR (insR S x.1) x.2
def marksR (L : List (List Arc)) : List R := L.flatten.foldl insA [rcan 0, rcan 1]
theorem insR_len (l : List R) (y : R) : (insR l y).length ≤ l.length + 1 := by
 unfold insR
 split
 ·omega
 ·simp only [List.length_append, List.length_take, List.length_cons, List.length_drop]
  have := posR_le l (rv y)
  omega
theorem okRs_ins {b : Nat} {l : List R} {y : R} (h : okRs b l) (hy : WLR y ∧ rl y ≤ b) : okRs b (insR l y) := by
 unfold insR
 split
 ·exact h
 ·intro x hx
  rcases List.mem_append.1 hx with hx | hx
  ·exact h x (List.mem_of_mem_take hx)
  ·rcases List.mem_cons.1 hx with rfl | hx
   ·exact hy
   ·exact h x (List.mem_of_mem_drop hx)
theorem insA_fold {b : Nat} : ∀ (l : List Arc) (S : List R), okRs b S → okAs b l → okRs b (l.foldl insA S) ∧ (l.foldl insA S).length ≤ S.length + 2 * l.length
 | [], S, h, _ => ⟨h, by simp⟩
 | x :: l, S, h, hl => by
  have hx := hl x (by simp)
  have h1 : okRs b (insA S x) := okRs_ins (okRs_ins h ⟨hx.1.1, Nat.le_trans (Nat.le_max_left _ _) hx.2⟩) ⟨hx.1.2, Nat.le_trans (Nat.le_max_right _ _) hx.2⟩
  obtain ⟨h2, h3⟩ := insA_fold l (insA S x) h1 fun z hz => hl z (by simp [hz])
  refine ⟨h2, ?_⟩
  have h4 := insR_len (insR S x.1) x.2
  have h5 := insR_len S x.1
  have e : insA S x = insR (insR S x.1) x.2 := rfl
  rw [List.foldl_cons, List.length_cons]
  rw [e] at h3 ⊢
  omega
end Go.Num
namespace Go.Abs
open Go.Num
variable {P : Program} {Γ : Nat → Spec}
def rsA (l : List R) : AV := .one (.slice (l.map rC))
theorem rC_inj {x y : R} (h : rC x = rC y) : x = y := rA_inj x y (by simpa [rC, rA] using h)
theorem rsA_inj (x y : List R) (h : rsA x = rsA y) : x = y := by
 simp only [rsA, AV.one.injEq, C.slice.injEq] at h
 exact List.map_inj_right (fun _ _ => rC_inj) |>.1 h
def onRs (k : List R → Prop) (a : AV) : Prop := onE rsA (fun l => (∀ x ∈ l, WLR x) ∧ k l) a
@[congr] theorem onRs_cg {k : List R → Prop} {a a' : AV} (h : a = a') : onRs k a = onRs k a' := by subst h; rfl
theorem onRs_e (k : List R → Prop) (l : List R) : onRs k (.one (.slice (l.map rC))) = ((∀ x ∈ l, WLR x) ∧ k l) := onE_e rsA_inj (fun l => (∀ x ∈ l, WLR x) ∧ k l) l
theorem g_onRs {β : Type} {T : List R → (β → Prop) → Prop} (h : ∀ l, GoodT (T l)) {a : AV} : GoodT fun K => onRs (fun l => T l K) a :=
 g_onE (e := rsA) (T := fun l K => (∀ x ∈ l, WLR x) ∧ T l K) rsA_inj fun l => GoodT.and (c := ∀ x ∈ l, WLR x) (T := T l) fun _ => h l
theorem clean_rs (l : List R) : Clean (.slice (l.map rC)) = True := eq_true (.slice _ (of_eq_true (clean_rC l)))
theorem take_rC (l : List R) (n : Nat) : (l.map rC).take n = (l.take n).map rC := by rw [List.map_take]
theorem drop_rC (l : List R) (n : Nat) : (l.map rC).drop n = (l.drop n).map rC := by rw [List.map_drop]
theorem rsA_eq (l : List R) : rsA l = .one (.slice (l.map rC)) := eq_of_heq (HEq.refl _)
attribute [go_sem] onRs_e clean_rs rsA_eq take_rC drop_rC
attribute [go_sem ↓] onRs_e clean_rs rsA_eq
def fmarks_G (l : List AV) (K : AV → Prop) : Prop :=
 match l with
 | [a] => onL (fun L => (∀ l ∈ L, okAs 1073741824 l) ∧ L.flatten.length ≤ 100000 ∧ K (.one (.slice ((marksR L).map rC)))) a
 | _ => False
theorem fmarks_Ge (a : AV) (K : AV → Prop) : fmarks_G [a] K = (onL (fun L => (∀ l ∈ L, okAs 1073741824 l) ∧ L.flatten.length ≤ 100000 ∧ K (.one (.slice ((marksR L).map rC)))) a) := propext Iff.rfl
@[congr] theorem fmarks_Gc {K : AV → Prop} {l l' : List AV} (h : l = l') : fmarks_G l K = fmarks_G l' K := by subst h; rfl
attribute [go_sem] fmarks_Ge
attribute [go_sem ↓] fmarks_Ge
theorem fmarks_good : Good fmarks_G := good_of fun as => by
 unfold fmarks_G
 split
 ·exact (g_onL fun _ => (.and fun _ => (.and fun _ => (.ret _))))
 ·exact .of fun K hk => hk.elim
def finsert_G (l : List AV) (K : AV → Prop) : Prop :=
 match l with
 | [a, b] => onRs (fun l => onR (fun y => okRs 1073741824 l ∧ rl y ≤ 1073741824 ∧ l.length ≤ 1000000 ∧ K (.one (.slice ((insR l y).map rC)))) b) a
 | _ => False
theorem finsert_Ge (a b : AV) (K : AV → Prop) : finsert_G [a, b] K = (onRs (fun l => onR (fun y => okRs 1073741824 l ∧ rl y ≤ 1073741824 ∧ l.length ≤ 1000000 ∧ K (.one (.slice ((insR l y).map rC)))) b) a) := propext Iff.rfl
@[congr] theorem finsert_Gc {K : AV → Prop} {l l' : List AV} (h : l = l') : finsert_G l K = finsert_G l' K := by subst h; rfl
attribute [go_sem] finsert_Ge
attribute [go_sem ↓] finsert_Ge
theorem finsert_good : Good finsert_G := good_of fun as => by
 unfold finsert_G
 split
 ·exact (g_onRs fun _ => (g_onR fun _ => (.and fun _ => (.and fun _ => (.and fun _ => (.ret _))))))
 ·exact .of fun K hk => hk.elim
def ac_linkworkref54_insert (f0 : Nat) : AC := (.seq (.ops false [.u 3 (.box 3 (.t 1)), .m 4 (.c (.one .emp))])
 (.fg [0, 3] (.seq (.ops false [.m 5 (.i 0)])
 (.fg [0, 3, 5] (.seq (.block 0 (.loop (.seq (.seq (.ops true [.m 7 (.t 5), .m 8 (.t 0), .u 9 (.len (.t 8)), .u 10 (.bin .lss (.t 7) (.t 9)), .m 11 (.t 10), .w 12 11 true (.mv (.t 0)), .w 13 11 true (.mv (.t 5)), .w 14 11 true (.idx 3 (.t 12) (.t 13)), .w 15 11 true (.ld none 3 true (.t 14)), .w 16 11 true (.ld none 3 true (.t 3)), .w 17 11 true (.call f0 [(.t 15), (.t 16)]), .w 18 11 true (.bin .lss (.t 17) (.i 0)), .u 19 (.pick (.t 11) (.t 18) .fa)])
 (.fg [0, 3, 5, 19] (.cond (.t 19) .skip (.exit 0))))
 (.fg [0, 3, 5] (.block 1 (.ops false [.m 20 (.t 5), .u 21 (.bin .add (.t 20) (.i 1)), .m 5 (.t 21)]))))))
 (.fg [0, 3, 5] (.seq (.seq (.ops true [.m 22 (.t 5), .m 23 (.t 0), .u 24 (.len (.t 23)), .u 25 (.bin .lss (.t 22) (.t 24)), .m 26 (.t 25), .w 27 26 true (.mv (.t 0)), .w 28 26 true (.mv (.t 5)), .w 29 26 true (.idx 3 (.t 27) (.t 28)), .w 30 26 true (.ld none 3 true (.t 29)), .w 31 26 true (.ld none 3 true (.t 3)), .w 32 26 true (.call f0 [(.t 30), (.t 31)]), .w 33 26 true (.bin .eql (.t 32) (.i 0)), .u 34 (.pick (.t 26) (.t 33) .fa)])
 (.fg [0, 3, 5, 34] (.cond (.t 34) (.seq (.ops false [.m 35 (.t 0), .m 4 (.t 35)])
 .ret) .skip)))
 (.fg [0, 3, 5] (.seq (.ops false [.m 6 (.c (.one .emp))])
 (.fg [0, 3, 5, 6] (.seq (.ops false [.m 36 (.t 6), .m 37 (.t 0), .m 38 (.t 5), .u 39 (.sl 3 (.t 37) none (some (.t 38))), .u 40 (.app 3 (.t 36) (.t 39)), .m 6 (.t 40)])
 (.fg [0, 3, 5, 6] (.seq (.ops false [.m 41 (.t 6), .u 42 (.ld none 3 true (.t 3)), .u 43 (.row 3 [[.x 3 (.t 42)]]), .u 44 (.app 3 (.t 41) (.t 43)), .m 6 (.t 44)])
 (.fg [0, 5, 6] (.seq (.ops false [.m 45 (.t 6), .m 46 (.t 0), .m 47 (.t 5), .u 48 (.sl 3 (.t 46) (some (.t 47)) none), .u 49 (.app 3 (.t 45) (.t 48)), .m 4 (.t 49)])
 .ret)))))))))))))))
def ac_linkworkref54_marks (f0 f1 : Nat) : AC := (.seq (.ops false [.m 2 (.c (.one .emp))])
 (.fg [0] (.seq (.ops false [.u 6 (.build [.z [(.lit (.bool false)), .emp, .emp]]), .u 7 (.call f0 []), .u 8 (.row 3 [[.x 3 (.t 6)], [.x 3 (.t 7)]]), .m 3 (.t 8)])
 (.fg [0, 3] (.seq (.seq (.ops false [.m 4 (.i 0)])
 (.fg [0, 3, 4] (.block 0 (.loop (.seq (.seq (.ops false [.m 9 (.t 4), .m 10 (.t 0), .u 11 (.len (.t 10)), .u 12 (.bin .lss (.t 9) (.t 11))])
 (.fg [0, 3, 4, 12] (.cond (.t 12) .skip (.exit 0))))
 (.fg [0, 3, 4] (.seq (.block 1 (.seq (.ops false [.m 5 (.i 0)])
 (.fg [0, 3, 4, 5] (.block 2 (.loop (.seq (.seq (.ops false [.m 15 (.t 5), .m 16 (.t 0), .m 17 (.t 4), .u 18 (.idx 1 (.t 16) (.t 17)), .u 19 (.ld none 1 false (.t 18)), .u 20 (.len (.t 19)), .u 21 (.bin .lss (.t 15) (.t 20))])
 (.fg [0, 3, 4, 5, 21] (.cond (.t 21) .skip (.exit 2))))
 (.fg [0, 3, 4, 5] (.seq (.block 3 (.ops true [.m 24 (.t 3), .m 25 (.t 0), .m 26 (.t 4), .u 27 (.idx 1 (.t 25) (.t 26)), .u 28 (.ld none 1 false (.t 27)), .m 29 (.t 5), .u 30 (.idx 6 (.t 28) (.t 29)), .u 31 (.fa 0 (.t 30)), .u 32 (.ld none 3 true (.t 31)), .u 33 (.call f1 [(.t 24), (.t 32)]), .m 34 (.t 0), .m 35 (.t 4), .u 36 (.idx 1 (.t 34) (.t 35)), .u 37 (.ld none 1 false (.t 36)), .m 38 (.t 5), .u 39 (.idx 6 (.t 37) (.t 38)), .u 40 (.fa 3 (.t 39)), .u 41 (.ld none 3 true (.t 40)), .u 42 (.call f1 [(.t 33), (.t 41)]), .m 3 (.t 42)]))
 (.fg [0, 3, 4, 5] (.ops false [.m 22 (.t 5), .u 23 (.bin .add (.t 22) (.i 1)), .m 5 (.t 23)]))))))))))
 (.fg [0, 3, 4] (.ops false [.m 13 (.t 4), .u 14 (.bin .add (.t 13) (.i 1)), .m 4 (.t 14)])))))))))
 (.fg [3] (.seq (.ops false [.m 43 (.t 3), .m 2 (.t 43)])
 .ret)))))))
theorem ins_fin {K : AV → Prop} (T D : List R) (y : R) (h : K (.one (.slice ((T ++ y :: D).map rC)))) : K (.one (datO (if T.length + 1 + D.length ≤ ((T.map rC ++ [[cb y, cn y, cd y]]).take (T.length + 1) ++ D.map rC).length then some (((T.map rC ++ [[cb y, cn y, cd y]]).take (T.length + 1) ++ D.map rC).take (T.length + 1 + D.length)) else none))) := by
 have e1 : (T.map rC ++ [[cb y, cn y, cd y]]).take (T.length + 1) = T.map rC ++ [[cb y, cn y, cd y]] := List.take_of_length_le (by simp)
 have e2 : (T.map rC ++ [[cb y, cn y, cd y]]) ++ D.map rC = (T ++ y :: D).map rC := by simp [rC]
 have e3 : ((T ++ y :: D).map rC).take (T.length + 1 + D.length) = (T ++ y :: D).map rC := List.take_of_length_le (by simp; omega)
 rw [e1, e2, e3, if_pos (by simp; omega)]
 simp only [go_sem]
 exact h
theorem finsert_sound (hΓ : Holds P Γ) {f fc : Nat} (hcm : Γ fc = .dat true rcmp02_G) (hc : check P f = some (50, (ac_linkworkref54_insert fc).strip, [.tmp 4])) : Sound P f (.dat false finsert_G) := by
 refine sound_dat hc finsert_good hΓ (fun args K hcl hfi hG => ?_)
 match args, hG with
 | [a, b], hG =>
  obtain ⟨l, rfl, hwl, y, rfl, hy, hok, hyl, hlen, hK⟩ := hG
  refine ⟨by simp, ?_⟩
  simp only [go_sem, ac_linkworkref54_insert, hcm]
  refine wpA_loop (fun i : Nat => ⟨mkV [(0, rsA l), (3, .one (.ptr 3 1 0 0)), (5, .one (.lit (.int .i64 i)))], mkH [(3, ⟨1, some ⟨[[cb y, cn y, cd y]], 3, true⟩⟩)]⟩) (fun i => i ≤ posR l (rv y)) (fun i => l.length - i) 0 ?_ ?_ ?_
  ·exact weak_lit (by simp [okS, okV, okC, okL, okH, okB, okE, mkV_cons, mkV_nil, mkH_cons, mkH_nil, wsA, ws, rsA]) ⟨okB_r, trivial⟩
  ·exact Nat.zero_le _
  ·intro i hi
   have hpl := posR_le l (rv y)
   by_cases hlt : i < l.length
   ·obtain ⟨x, hx⟩ : ∃ x, l.getD i (rcan 0) = x := ⟨_, rfl⟩
    have hx0 : l[i]? = some x := by rw [← hx, List.getD_eq_getElem?_getD, List.getElem?_eq_getElem hlt]; rfl
    have hxm := List.mem_of_getElem? hx0
    obtain ⟨hx3, hx1⟩ := hok x hxm
    have hpos := posR_at l (rv y) i hi hlt
    rw [hx] at hpos
    by_cases hstep : i < posR l (rv y)
    ·have h1 : ordQ (rv x) (rv y) < 0 := ordQ_lt.2 (hpos.2 hstep)
     simp only [go_sem, hcm, hlt, hx, rC_eq, hx1, hx3, hy, hyl, h1]
     exact ⟨by omega, by omega, i + 1, weak_lit (by simp [okS, okV, okC, okL, okH, okB, okE, mkV_cons, mkV_nil, mkH_cons, mkH_nil, wsA, ws, rsA]) ⟨okB_r, trivial⟩, by omega, by omega⟩
    ·have h1 : ¬ ordQ (rv x) (rv y) < 0 := fun h => hstep (hpos.1 (ordQ_lt.1 h))
     have hip : i = posR l (rv y) := by omega
     by_cases h2 : ordQ (rv x) (rv y) = 0
     ·simp only [go_sem, hcm, hlt, hx, rC_eq, hx1, hx3, hy, hyl, h1, h2, Int.lt_irrefl]
      have e : insR l y = l := by
       unfold insR
       rw [if_pos]
       rw [← hip, List.head?_drop, hx0]
       exact congrArg some (ordQ_eq0.1 h2)
      rw [e] at hK
      exact ⟨by omega, by omega, hK⟩
     ·simp only [go_sem, hcm, hlt, hx, rC_eq, hx1, hx3, hy, hyl, h1, h2]
      have e : insR l y = l.take i ++ y :: l.drop i := by
       unfold insR
       rw [← hip, if_neg]
       rw [List.head?_drop, hx0]
       exact fun h => h2 (ordQ_eq0.2 (Option.some.inj h))
      rw [e] at hK
      have eD : (l.drop i).take (l.length - i) = l.drop i := List.take_of_length_le (by rw [List.length_drop]; omega)
      have lT : (l.take i).length ≤ i := by rw [List.length_take]; omega
      have lD : (l.drop i).length ≤ l.length := by rw [List.length_drop]; omega
      rw [eD]
      exact ⟨by omega, by omega, by omega, by omega, by simp, by omega, by omega, ⟨by simp, by omega⟩, ins_fin _ _ y hK⟩
   ·have hip : i = posR l (rv y) := by omega
    simp only [go_sem, hcm, hlt]
    have e : insR l y = l.take i ++ y :: l.drop i := by
     unfold insR
     rw [← hip, if_neg]
     rw [List.head?_drop, List.getElem?_eq_none (by omega)]
     simp
    rw [e] at hK
    have eD : (l.drop i).take (l.length - i) = l.drop i := List.take_of_length_le (by rw [List.length_drop]; omega)
    have lT : (l.take i).length ≤ i := by rw [List.length_take]; omega
    have lD : (l.drop i).length ≤ l.length := by rw [List.length_drop]; omega
    rw [eD]
    exact ⟨by omega, by omega, by omega, by omega, by simp, by omega, by omega, ⟨by simp, by omega⟩, ins_fin _ _ y hK⟩
theorem fmarks_sound (hΓ : Holds P Γ) {f fo fi : Nat} (ho : Γ fo = .dat false cone_G) (hin : Γ fi = .dat false finsert_G) (hc : check P f = some (44, (ac_linkworkref54_marks fo fi).strip, [.tmp 2])) : Sound P f (.dat false fmarks_G) := by
 refine sound_dat hc fmarks_good hΓ (fun args K hcl hfi hG => ?_)
 match args, hG with
 | [a], hG =>
  obtain ⟨L, rfl, hwL, hok, hlen, hK⟩ := hG
  refine ⟨by simp, ?_⟩
  simp only [go_sem, ac_linkworkref54_marks, ho, hin]
  have h0s : okRs 1073741824 [rcan 0, rcan 1] := by
   intro x hx
   simp only [List.mem_cons, List.not_mem_nil, or_false] at hx
   rcases hx with rfl | rfl
   ·exact ⟨WLR_rcan _, by rw [rl_can, rz_zero]; decide⟩
   ·exact ⟨WLR_rcan _, by rw [rl_can]; have := rz_one; omega⟩
  have hsplit : ∀ i l, L[i]? = some l → (L.take i).flatten.length + l.length ≤ L.flatten.length := by
   intro i l hl
   have hi := (List.getElem?_eq_some_iff.1 hl).1
   have e : L = L.take i ++ l :: L.drop (i + 1) := by
    have e2 : L.drop i = l :: L.drop (i + 1) := by
     rw [List.drop_eq_getElem_cons hi]
     rw [List.getElem?_eq_getElem hi, Option.some.injEq] at hl
     rw [hl]
    rw [← e2, List.take_append_drop]
   have := congrArg (fun M => M.flatten.length) e
   simp only [List.flatten_append, List.flatten_cons, List.length_append] at this
   omega
  have hokf : ∀ z ∈ L.flatten, okA 1073741824 z := by
   intro z hz
   obtain ⟨l, hl, hz⟩ := List.mem_flatten.1 hz
   exact hok l hl z hz
  refine wpA_loop (fun p : Nat × List R => ⟨mkV [(0, lsA L), (3, rsA p.2), (4, .one (.lit (.int .i64 p.1)))], mkH []⟩) (fun p => p.1 ≤ L.length ∧ p.2 = (L.take p.1).flatten.foldl insA [rcan 0, rcan 1]) (fun p => L.length - p.1) (0, [rcan 0, rcan 1]) ?_ ?_ ?_
  ·exact weak_lit (by simp [okS, okV, okC, okL, okH, okB, okE, mkV_cons, mkV_nil, mkH_cons, mkH_nil, wsA, ws, lsA, rsA, rC, rcan_zero, cb, cn, cd]) trivial
  ·exact ⟨Nat.zero_le _, by simp⟩
  ·rintro ⟨i, S⟩ ⟨hi, hS⟩
   simp only at hi hS
   by_cases hlt : i < L.length
   ·obtain ⟨l, hl⟩ : ∃ l, L.getD i [] = l := ⟨_, rfl⟩
    have hl0 : L[i]? = some l := by rw [← hl, List.getD_eq_getElem?_getD, List.getElem?_eq_getElem hlt]; rfl
    have hlm := List.mem_of_getElem? hl0
    have hsp := hsplit i l hl0
    simp only [go_sem, ho, hin, hlt]
    intro _
    refine wpA_loop (fun p : Nat × List R => ⟨mkV [(0, lsA L), (3, rsA p.2), (4, .one (.lit (.int .i64 i))), (5, .one (.lit (.int .i64 p.1)))], mkH []⟩) (fun p => p.1 ≤ l.length ∧ p.2 = ((L.take i).flatten ++ l.take p.1).foldl insA [rcan 0, rcan 1]) (fun p => l.length - p.1) (0, S) ?_ ?_ ?_
    ·exact weak_lit (by simp [okS, okV, okC, okL, okH, okB, okE, mkV_cons, mkV_nil, mkH_cons, mkH_nil, wsA, ws, lsA, rsA]) trivial
    ·exact ⟨Nat.zero_le _, by simp only [List.take_zero, List.append_nil]; exact hS⟩
    ·rintro ⟨k, T⟩ ⟨hk, hT⟩
     simp only at hk hT
     have hpre : okAs 1073741824 ((L.take i).flatten ++ l.take k) := by
      intro z hz
      rcases List.mem_append.1 hz with hz | hz
      ·obtain ⟨m, hm, hz⟩ := List.mem_flatten.1 hz
       exact hok m (List.mem_of_mem_take hm) z hz
      ·exact hok l hlm z (List.mem_of_mem_take hz)
     obtain ⟨g1, g2⟩ := insA_fold ((L.take i).flatten ++ l.take k) [rcan 0, rcan 1] h0s hpre
     rw [← hT] at g1 g2
     have g3 : T.length ≤ 200002 := by
      have h1 : (l.take k).length ≤ l.length := by rw [List.length_take]; omega
      simp only [List.length_append, List.length_cons, List.length_nil] at g2
      omega
     by_cases hlt2 : k < l.length
     ·obtain ⟨x, hx⟩ : ∃ x, l.getD k a0 = x := ⟨_, rfl⟩
      have hx0 : l[k]? = some x := by rw [← hx, List.getD_eq_getElem?_getD, List.getElem?_eq_getElem hlt2]; rfl
      have hox := hok l hlm x (List.mem_of_getElem? hx0)
      have hx1 : rl x.1 ≤ 1073741824 := Nat.le_trans (Nat.le_max_left _ _) hox.2
      have hx2 : rl x.2 ≤ 1073741824 := Nat.le_trans (Nat.le_max_right _ _) hox.2
      have hx3 := hox.1.1
      have hx4 := hox.1.2
      have g4 : okRs 1073741824 (insR T x.1) := okRs_ins g1 ⟨hx3, hx1⟩
      have g5 := insR_len T x.1
      have hstep : (insA T x) = ((L.take i).flatten ++ l.take (k + 1)).foldl insA [rcan 0, rcan 1] := by
       rw [List.take_add_one, hx0, Option.toList_some, ← List.append_assoc, List.foldl_append, ← hT]; rfl
      simp only [go_sem, ho, hin, hlt, hl, hlt2, hx, aC_eq, hx1, hx2, hx3, hx4]
      exact fun _ => ⟨fun z hz => (g1 z hz).1, g1, by omega, fun z hz => (g4 z hz).1, g4, by omega, by omega, (k + 1, insA T x), weak_lit (by simp [okS, okV, okC, okL, okH, okB, okE, mkV_cons, mkV_nil, mkH_cons, mkH_nil, wsA, ws, lsA, rsA, insA]) trivial, ⟨by (try simp only); omega, hstep⟩, by (try simp only); omega⟩
     ·have e : l.take k = l := List.take_of_length_le (by omega)
      rw [e] at hT
      simp only [go_sem, ho, hin, hlt, hl, hlt2]
      refine fun _ => ⟨by omega, (i + 1, T), weak_lit (by simp [okS, okV, okC, okL, okH, okB, okE, mkV_cons, mkV_nil, mkH_cons, mkH_nil, wsA, ws, lsA, rsA]) trivial, ⟨by (try simp only); omega, ?_⟩, by (try simp only); omega⟩
      simp only
      rw [hT, List.take_add_one, hl0]
      simp
   ·have e : L.take i = L := List.take_of_length_le (by omega)
    rw [e] at hS
    simp only [go_sem, ho, hin, hlt]
    rw [hS]
    exact fun _ => hK
end Go.Abs
end
section
set_option linter.unusedVariables false
namespace Go.Num
def cmbStep (h : Rat → Bool) (out : List Q2) (p q : Rat) : List Q2 :=
 if h p then
  match out.getLast? with
  | some z => if z.2 = p then out.dropLast ++ [(z.1, q)] else out ++ [(p, q)]
  | none => [(p, q)]
 else out
def cmb (h : Rat → Bool) : List Rat → List Q2 → List Q2
 | a :: b :: r, out => cmb h (b :: r) (cmbStep h out a b)
 | _, out => out
def Steps (H : Rat → Prop) (h : Rat → Bool) : List Rat → Prop
 | a :: b :: r => (a < b ∧ ∀ x, a ≤ x → x < b → (H x ↔ h a = true)) ∧ Steps H h (b :: r)
 | _ => True
structure Upto (m : Rat) (out : List Q2) : Prop where
 pos : Pos out
 ap : Apart out
 hi : ∀ q ∈ out, q.2 ≤ m
theorem cmbStep_ok {h : Rat → Bool} {out : List Q2} {p q : Rat} (hpq : p < q) (ho : Upto p out) : Upto q (cmbStep h out p q) ∧ ∀ x, memL x (cmbStep h out p q) ↔ memL x out ∨ (h p = true ∧ p ≤ x ∧ x < q) := by
 unfold cmbStep
 by_cases hp : h p = true
 ·rw [if_pos hp]
  rcases List.eq_nil_or_concat out with rfl | ⟨o, z, rfl⟩
  ·simp only [List.getLast?_nil]
   refine ⟨⟨fun a ha => ?_, by simp [Apart], fun a ha => ?_⟩, fun x => ?_⟩
   ·rw [List.mem_singleton] at ha; subst ha; exact hpq
   ·rw [List.mem_singleton] at ha; subst ha; exact Rat.le_refl
   ·simp [memL_cons, memL_nil, mem, hp]
  ·rw [List.concat_eq_append] at *
   simp only [List.getLast?_append, List.getLast?_singleton, Option.some_or]
   obtain ⟨a1, a2, a3⟩ := List.pairwise_append.1 ho.ap
   have pz := ho.pos z (by simp)
   by_cases hz : z.2 = p
   ·rw [if_pos hz, List.dropLast_concat]
    refine ⟨⟨fun a ha => ?_, ?_, fun a ha => ?_⟩, fun x => ?_⟩
    ·rcases List.mem_append.1 ha with ha | ha
     ·exact ho.pos a (by simp [ha])
     ·rw [List.mem_singleton] at ha; subst ha; simp only; grind
    ·refine List.pairwise_append.2 ⟨a1, by simp, fun a ha b hb => ?_⟩
     rw [List.mem_singleton] at hb; subst hb
     exact a3 a ha z (by simp)
    ·rcases List.mem_append.1 ha with ha | ha
     ·have := ho.hi a (by simp [ha]); grind
     ·rw [List.mem_singleton] at ha; subst ha; exact Rat.le_refl
    ·rw [memL_append, memL_append, memL_cons, memL_cons]
     simp only [memL_nil, or_false, mem, hp, true_and]
     constructor
     ·rintro (h1 | ⟨h1, h2⟩)
      ·exact .inl (.inl h1)
      ·by_cases hx : x < p
       ·exact .inl (.inr ⟨h1, by grind⟩)
       ·exact .inr ⟨by grind, h2⟩
     ·rintro ((h1 | ⟨h1, h2⟩) | ⟨h1, h2⟩)
      ·exact .inl h1
      ·exact .inr ⟨h1, by grind⟩
      ·exact .inr ⟨by grind, h2⟩
   ·rw [if_neg hz]
    have hzl := ho.hi z (by simp)
    refine ⟨⟨fun a ha => ?_, ?_, fun a ha => ?_⟩, fun x => ?_⟩
    ·rcases List.mem_append.1 ha with ha | ha
     ·exact ho.pos a ha
     ·rw [List.mem_singleton] at ha; subst ha; exact hpq
    ·refine List.pairwise_append.2 ⟨ho.ap, by simp, fun a ha b hb => ?_⟩
     rw [List.mem_singleton] at hb; subst hb
     rcases List.mem_append.1 ha with ha | ha
     ·have := a3 a ha z (by simp)
      simp only; grind
     ·rw [List.mem_singleton] at ha; subst ha; simp only; grind
    ·rcases List.mem_append.1 ha with ha | ha
     ·have := ho.hi a ha; grind
     ·rw [List.mem_singleton] at ha; subst ha; exact Rat.le_refl
    ·rw [memL_append, memL_cons]
     simp [memL_nil, mem, hp]
 ·rw [if_neg hp]
  refine ⟨⟨ho.pos, ho.ap, fun a ha => by have := ho.hi a ha; grind⟩, fun x => ?_⟩
  simp [hp]
theorem cmb_ok {H : Rat → Prop} {h : Rat → Bool} : ∀ (M : List Rat) (m : Rat) (out : List Q2), M.head? = some m → Steps H h M → Upto m out →
  Pos (cmb h M out) ∧ Apart (cmb h M out) ∧ ∀ x, memL x (cmb h M out) ↔ memL x out ∨ (m ≤ x ∧ x < M.getLast?.getD m ∧ H x)
 | [], m, out, hm, _, _ => by simp at hm
 | [a], m, out, hm, _, ho => by
  simp only [List.head?_cons, Option.some.injEq] at hm
  subst hm
  refine ⟨ho.pos, ho.ap, fun x => ?_⟩
  simp only [cmb, List.getLast?_singleton, Option.getD_some]
  constructor
  ·exact .inl
  ·rintro (h | ⟨h1, h2, _⟩)
   ·exact h
   ·grind
 | a :: b :: r, m, out, hm, hs, ho => by
  simp only [List.head?_cons, Option.some.injEq] at hm
  subst hm
  obtain ⟨⟨hab, hH⟩, hs'⟩ := hs
  obtain ⟨g1, g2⟩ := cmbStep_ok (h := h) hab ho
  obtain ⟨k1, k2, k3⟩ := cmb_ok (b :: r) b _ rfl hs' g1
  refine ⟨k1, k2, fun x => ?_⟩
  have hl : (a :: b :: r).getLast?.getD a = (b :: r).getLast?.getD b := by
   rw [List.getLast?_cons_cons]
   cases h : (b :: r).getLast? with
   | none => simp at h
   | some z => rfl
  have hbl : b ≤ (b :: r).getLast?.getD b := by
   have : ∀ (r : List Rat) (b : Rat), Steps H h (b :: r) → b ≤ (b :: r).getLast?.getD b := by
    intro r
    induction r with
    | nil => intro b _; simp
    | cons c r ih =>
     intro b hs
     obtain ⟨⟨h1, _⟩, h2⟩ := hs
     have := ih c h2
     rw [List.getLast?_cons_cons]
     cases h : (c :: r).getLast? with
     | none => simp at h
     | some z => rw [h] at this; simp only [Option.getD_some] at this ⊢; grind
   exact this r b hs'
  rw [hl]
  have e := k3 x
  rw [g2 x] at e
  show memL x (cmb h (b :: r) (cmbStep h out a b)) ↔ _
  rw [e]
  constructor
  ·rintro ((h1 | ⟨h1, h2, h3⟩) | ⟨h1, h2, h3⟩)
   ·exact .inl h1
   ·exact .inr ⟨h2, by grind, (hH x h2 h3).2 h1⟩
   ·exact .inr ⟨by grind, h2, h3⟩
  ·rintro (h1 | ⟨h1, h2, h3⟩)
   ·exact .inl (.inl h1)
   ·by_cases hx : x < b
    ·exact .inl (.inr ⟨(hH x h1 hx).1 h3, h1, hx⟩)
    ·exact .inr ⟨by grind, h2, h3⟩
end Go.Num
end
section
set_option linter.unusedVariables false
namespace Go.Num
theorem mem_not1 {x f t : Rat} : memL x (not1 f t) ↔ f ≤ x ∧ x < t := by
 unfold not1
 split
 ·simp [memL_cons, memL_nil, mem]
 ·rename_i h
  constructor
  ·intro h'; exact absurd h' (memL_nil x)
  ·rintro ⟨h1, h2⟩; exact absurd (lt_of_le_of_lt h1 h2) h
theorem pos_not1 (f t : Rat) : Pos (not1 f t) := by
 intro q hq
 unfold not1 at hq
 split at hq
 ·rw [List.mem_singleton] at hq; subst hq; assumption
 ·simp at hq
theorem in_not1 {f t : Rat} {q : Q2} (hq : q ∈ not1 f t) : q.1 = f ∧ q.2 = t := by
 unfold not1 at hq
 split at hq
 ·rw [List.mem_singleton] at hq; subst hq; exact ⟨rfl, rfl⟩
 ·simp at hq
theorem notGo_ok : ∀ (l : List Q2) (f : Rat), f ≤ 1 → Pos l → Apart l → (∀ a ∈ l, f ≤ a.1) → (∀ a ∈ l, a.2 ≤ 1) →
  (∀ x, memL x (notGo f l) ↔ f ≤ x ∧ x < 1 ∧ ¬ memL x l) ∧ Pos (notGo f l) ∧ Apart (notGo f l) ∧ ∀ q ∈ notGo f l, f ≤ q.1 ∧ q.2 ≤ 1
 | [], f, hf, _, _, _, _ => by
  refine ⟨fun x => ?_, pos_not1 _ _, ?_, fun q hq => ?_⟩
  ·rw [notGo, mem_not1]
   exact ⟨fun ⟨h1, h2⟩ => ⟨h1, h2, memL_nil x⟩, fun ⟨h1, h2, _⟩ => ⟨h1, h2⟩⟩
  ·unfold notGo not1; split <;> simp [Apart]
  ·obtain ⟨h1, h2⟩ := in_not1 hq
   rw [h1, h2]; exact ⟨Rat.le_refl, Rat.le_refl⟩
 | a :: l, f, hf, hp, ha, hlo, hhi => by
  obtain ⟨a1, a2⟩ := List.pairwise_cons.1 ha
  have pa := hp a (by simp)
  have h1 := hhi a (by simp)
  have h0 := hlo a (by simp)
  obtain ⟨m, p, ap, b⟩ := notGo_ok l a.2 h1 (fun q hq => hp q (by simp [hq])) a2 (fun q hq => Rat.le_of_lt (a1 q hq)) (fun q hq => hhi q (by simp [hq]))
  refine ⟨fun x => ?_, ?_, ?_, ?_⟩
  ·rw [notGo, memL_append, mem_not1, m x, memL_cons]
   unfold mem
   constructor
   ·rintro (⟨g1, g2⟩ | ⟨g1, g2, g3⟩)
    ·refine ⟨g1, by grind, fun h => ?_⟩
     rcases h with h | h
     ·grind
     ·obtain ⟨c, hc, hc1, hc2⟩ := h
      have := a1 c hc
      grind
    ·refine ⟨by grind, g2, fun h => ?_⟩
     rcases h with h | h
     ·grind
     ·exact g3 h
   ·rintro ⟨g1, g2, g3⟩
    by_cases hx : x < a.1
    ·exact .inl ⟨g1, hx⟩
    ·refine .inr ⟨?_, g2, fun h => g3 (.inr h)⟩
     refine Rat.not_lt.1 fun h => g3 (.inl ⟨Rat.not_lt.1 hx, h⟩)
  ·intro q hq
   rw [notGo] at hq
   rcases List.mem_append.1 hq with hq | hq
   ·exact pos_not1 _ _ q hq
   ·exact p q hq
  ·rw [notGo]
   refine List.pairwise_append.2 ⟨by unfold not1; split <;> simp, ap, fun q hq r hr => ?_⟩
   obtain ⟨_, e2⟩ := in_not1 hq
   have := (b r hr).1
   grind
  ·intro q hq
   rw [notGo] at hq
   rcases List.mem_append.1 hq with hq | hq
   ·obtain ⟨e1, e2⟩ := in_not1 hq
    rw [e1, e2]
    exact ⟨Rat.le_refl, by grind⟩
   ·obtain ⟨g1, g2⟩ := b q hq
    exact ⟨by grind, g2⟩
theorem notL_ok {l : List Q2} (hp : Pos l) (ha : Apart l) (hi : In01 l) : (∀ x, memL x (notL l) ↔ 0 ≤ x ∧ x < 1 ∧ ¬ memL x l) ∧ Pos (notL l) ∧ Apart (notL l) ∧ In01 (notL l) :=
 notGo_ok l 0 (by decide) hp ha (fun a h => (hi a h).1) (fun a h => (hi a h).2)
theorem mx_le {p q x : Rat} : mxQ p q ≤ x ↔ p ≤ x ∧ q ≤ x := by unfold mxQ; split <;> grind
theorem lt_mn {p q x : Rat} : x < mnQ p q ↔ x < p ∧ x < q := by unfold mnQ; split <;> grind
theorem le_mx1 (p q : Rat) : p ≤ mxQ p q := by unfold mxQ; split <;> grind
theorem le_mx2 (p q : Rat) : q ≤ mxQ p q := by unfold mxQ; split <;> grind
theorem mn_le1 (p q : Rat) : mnQ p q ≤ p := by unfold mnQ; split <;> grind
theorem mn_le2 (p q : Rat) : mnQ p q ≤ q := by unfold mnQ; split <;> grind
theorem mem_meet1 {x : Rat} {p q : Q2} : memL x (meet1 p q) ↔ mem x p ∧ mem x q := by
 unfold meet1
 rw [mem_not1, mx_le, lt_mn]
 unfold mem
 exact ⟨fun ⟨⟨a, b⟩, c, d⟩ => ⟨⟨a, c⟩, b, d⟩, fun ⟨⟨a, c⟩, b, d⟩ => ⟨⟨a, b⟩, c, d⟩⟩
theorem memL_flat {α : Type} {x : Rat} {f : α → List Q2} {l : List α} : memL x (l.flatMap f) ↔ ∃ a ∈ l, memL x (f a) := by
 unfold memL
 constructor
 ·rintro ⟨q, hq, hx⟩
  obtain ⟨a, ha, hqa⟩ := List.mem_flatMap.1 hq
  exact ⟨a, ha, q, hqa, hx⟩
 ·rintro ⟨a, ha, q, hq, hx⟩
  exact ⟨q, List.mem_flatMap.2 ⟨a, ha, hq⟩, hx⟩
theorem mem_meetL {x : Rat} {a b : List Q2} : memL x (meetL a b) ↔ memL x a ∧ memL x b := by
 unfold meetL
 rw [memL_flat]
 constructor
 ·rintro ⟨p, hp, h⟩
  obtain ⟨q, hq, h⟩ := memL_flat.1 h
  obtain ⟨h1, h2⟩ := mem_meet1.1 h
  exact ⟨⟨p, hp, h1⟩, ⟨q, hq, h2⟩⟩
 ·rintro ⟨⟨p, hp, h1⟩, ⟨q, hq, h2⟩⟩
  exact ⟨p, hp, memL_flat.2 ⟨q, hq, mem_meet1.2 ⟨h1, h2⟩⟩⟩
theorem in_meet1 {p q u : Q2} (h : u ∈ meet1 p q) : u.1 = mxQ p.1 q.1 ∧ u.2 = mnQ p.2 q.2 := in_not1 h
theorem pos_meetL (a b : List Q2) : Pos (meetL a b) := by
 intro u hu
 obtain ⟨p, hp, hu⟩ := List.mem_flatMap.1 hu
 obtain ⟨q, hq, hu⟩ := List.mem_flatMap.1 hu
 exact pos_not1 _ _ u hu
theorem apart_flat {α : Type} {f : α → List Q2} : ∀ {l : List α}, (∀ x ∈ l, Apart (f x)) → l.Pairwise (fun x y => ∀ u ∈ f x, ∀ v ∈ f y, u.2 < v.1) → Apart (l.flatMap f)
 | [], _, _ => by simp [Apart]
 | x :: l, h1, h2 => by
  obtain ⟨h3, h4⟩ := List.pairwise_cons.1 h2
  rw [List.flatMap_cons]
  refine List.pairwise_append.2 ⟨h1 x (by simp), apart_flat (fun y hy => h1 y (by simp [hy])) h4, fun u hu v hv => ?_⟩
  obtain ⟨y, hy, hv⟩ := List.mem_flatMap.1 hv
  exact h3 y hy u hu v hv
theorem apart_meetL {a b : List Q2} (ha : Apart a) (hb : Apart b) : Apart (meetL a b) := by
 refine apart_flat (fun x hx => apart_flat (fun y hy => ?_) (hb.imp ?_)) (ha.imp ?_)
 ·unfold meet1 not1; split <;> simp [Apart]
 ·intro y y' hyy u hu v hv
  rw [(in_meet1 hu).2, (in_meet1 hv).1]
  have := mn_le2 x.2 y.2
  have := le_mx2 x.1 y'.1
  grind
 ·intro x x' hxx u hu v hv
  obtain ⟨y, hy, hu⟩ := List.mem_flatMap.1 hu
  obtain ⟨y', hy', hv⟩ := List.mem_flatMap.1 hv
  rw [(in_meet1 hu).2, (in_meet1 hv).1]
  have := mn_le1 x.2 y.2
  have := le_mx1 x'.1 y'.1
  grind
theorem len_sub {α : Type} [DecidableEq α] : ∀ {l m : List α}, l.Nodup → (∀ x ∈ l, x ∈ m) → l.length ≤ m.length
 | [], m, _, _ => Nat.zero_le _
 | x :: l, m, h, hs => by
  obtain ⟨h1, h2⟩ := List.nodup_cons.1 h
  have hx := hs x (by simp)
  have := len_sub (m := m.erase x) h2 fun y hy => (List.mem_erase_of_ne (fun e : y = x => h1 (by rw [← e]; exact hy))).2 (hs y (by simp [hy]))
  rw [List.length_erase_of_mem hx] at this
  have := List.length_pos_of_mem hx
  simp only [List.length_cons]; omega
theorem apart_starts {l : List Q2} (hp : Pos l) (ha : Apart l) : (l.map Prod.fst).Nodup := by
 refine List.pairwise_map.2 ?_
 refine List.Pairwise.imp_of_mem (fun {a b} h1 h2 hab e => ?_) ha
 have := hp a h1
 grind
theorem meetL_few {a b : List Q2} (ha : Apart a) (hb : Apart b) : (meetL a b).length ≤ a.length + b.length := by
 have h := len_sub (l := (meetL a b).map Prod.fst) (m := a.map Prod.fst ++ b.map Prod.fst) (apart_starts (pos_meetL a b) (apart_meetL ha hb)) (fun x hx => by
  obtain ⟨u, hu, rfl⟩ := List.mem_map.1 hx
  obtain ⟨p, hp, hu⟩ := List.mem_flatMap.1 hu
  obtain ⟨q, hq, hu⟩ := List.mem_flatMap.1 hu
  rw [(in_meet1 hu).1]
  unfold mxQ
  split
  ·exact List.mem_append.2 (.inl (List.mem_map.2 ⟨p, hp, rfl⟩))
  ·exact List.mem_append.2 (.inr (List.mem_map.2 ⟨q, hq, rfl⟩)))
 simpa using h
theorem in_meetL {a b : List Q2} (ha : In01 a) : In01 (meetL a b) :=
 in01_of (pos_meetL a b) fun x hx => in01_mem ha (mem_meetL.1 hx).1
end Go.Num
end
section
set_option linter.unusedVariables false
namespace Go.Num
structure NQ (b n : Nat) (L : List Q2) : Prop where
 pos : Pos L
 ap : Apart L
 in1 : In01 L
 len : L.length ≤ n
 rz : rzQ b L
theorem NQ.mono {b n b' n' : Nat} {L : List Q2} (h : NQ b n L) (hb : b ≤ b') (hn : n ≤ n') : NQ b' n' L :=
 ⟨h.pos, h.ap, h.in1, Nat.le_trans h.len hn, fun q hq => ⟨Nat.le_trans (h.rz q hq).1 hb, Nat.le_trans (h.rz q hq).2 hb⟩⟩
theorem NQ.chk {b n : Nat} {L : List Q2} (h : NQ b n L) (hn : n ≤ 64) : Go.Num.chk [L.map acan] = 0 := chk_can (Nat.le_trans h.len hn) h.pos h.in1
theorem NQ.ok {b n c : Nat} {L : List Q2} (h : NQ b n L) (hb : b ≤ c) : okAs c (L.map acan) := okAs_can fun q hq => ⟨Nat.le_trans (h.rz q hq).1 hb, Nat.le_trans (h.rz q hq).2 hb⟩
theorem NQ.res {b n : Nat} {L : List Q2} (h : NQ b n L) (hn : n ≤ 64) : Go.Num.res 0 L = L := by
 have := h.len
 unfold Go.Num.res lim64
 rw [if_pos rfl, if_neg (by omega)]
theorem NQ.cod {b n : Nat} {L : List Q2} (h : NQ b n L) (hn : n ≤ 64) : Go.Num.cod 0 L = 0 := by
 have := h.len
 unfold Go.Num.cod code64
 rw [if_pos rfl, if_neg (by omega)]
theorem NQ.nrm {b n : Nat} {L : List Q2} (h : NQ b n L) : Go.Num.nrm L = L := nrm_eq h.pos h.pos h.ap fun x => Iff.rfl
theorem nq_nrm {b n : Nat} {L : List Q2} (hp : Pos L) (hi : In01 L) (hl : L.length ≤ n) (hr : rzQ b L) : NQ b n (Go.Num.nrm L) :=
 ⟨(nrm_ok hp).1, (nrm_ok hp).2.1, nrm_in hp hi, Nat.le_trans (nrm_len L) hl, rzQ_nrm hr⟩
theorem nq_not {b n : Nat} {L : List Q2} (h : NQ b n L) (hb : 2 ≤ b) : NQ b (n + 1) (notL L) := by
 obtain ⟨h1, h2, h3, h4⟩ := notL_ok h.pos h.ap h.in1
 refine ⟨h2, h3, h4, Nat.le_trans (notL_len L) (Nat.succ_le_succ h.len), fun q hq => ?_⟩
 unfold notL at hq
 rw [notGo_gaps] at hq
 obtain ⟨g1, g2⟩ := rz_gaps (b := b) L 0 (by rw [rz_zero]; exact Nat.zero_le _) h.rz
 rcases List.mem_append.1 hq with hq | hq
 ·exact g1 q hq
 ·obtain ⟨e1, e2⟩ := in_not1 hq
  rw [e1, e2]
  exact ⟨g2, Nat.le_trans rz_one hb⟩
theorem nq_meet {b n m : Nat} {L M : List Q2} (h : NQ b n L) (k : NQ b m M) : NQ b (n + m) (meetL L M) := by
 refine ⟨pos_meetL L M, apart_meetL h.ap k.ap, in_meetL h.in1, Nat.le_trans (meetL_few h.ap k.ap) (Nat.add_le_add h.len k.len), fun u hu => ?_⟩
 obtain ⟨p, hp, hu⟩ := List.mem_flatMap.1 hu
 obtain ⟨q, hq, hu⟩ := List.mem_flatMap.1 hu
 rw [(in_meet1 hu).1, (in_meet1 hu).2]
 exact ⟨rz_mx (h.rz p hp).1 (k.rz q hq).1, rz_mn (h.rz p hp).2 (k.rz q hq).2⟩
theorem any_can (y : Rat) (L : List Q2) : (L.map acan).any (inA y) = decide (memL y L) := by rw [any_mem, vals_can]
theorem nq_val {l : List Arc} {b : Nat} (h : chk [l] = 0) (hl : l.length ≤ 20) (ho : okAs b l) : NQ b 20 (nrm (vals l)) :=
 nq_nrm (chk_val h).1 (chk_val h).2 (by simpa [vals] using hl) (rzQ_vals ho)
theorem not_not {b n : Nat} {L : List Q2} (h : NQ b n L) (hb : 2 ≤ b) : notL (notL L) = L := by
 obtain ⟨h1, h2, h3, h4⟩ := notL_ok h.pos h.ap h.in1
 obtain ⟨k1, k2, k3, k4⟩ := notL_ok h2 h3 h4
 refine chart_ext k2 k3 h.pos h.ap fun x => ?_
 rw [k1 x, h1 x]
 constructor
 ·rintro ⟨a, b, c⟩
  by_cases hx : memL x L
  ·exact hx
  ·exact absurd ⟨a, b, hx⟩ c
 ·intro hx
  obtain ⟨a, b⟩ := in01_mem h.in1 hx
  exact ⟨a, b, fun ⟨_, _, c⟩ => c hx⟩
end Go.Num
end
section
set_option linter.unusedVariables false
namespace Go.Num
def Asc (l : List R) : Prop := (l.map rv).Pairwise (· < ·)
theorem asc_ins : ∀ (l : List R) (y : R), Asc l → Asc (insR l y) ∧ ∀ q, q ∈ (insR l y).map rv ↔ q = rv y ∨ q ∈ l.map rv
 | [], y, _ => by
  have e : insR [] y = [y] := by simp [insR, posR]
  rw [e]; exact ⟨by simp [Asc], fun q => by simp⟩
 | x :: l, y, h => by
  obtain ⟨h1, h2⟩ := List.pairwise_cons.1 (show ((x :: l).map rv).Pairwise (· < ·) from h)
  by_cases hxy : rv x < rv y
  ·have e : insR (x :: l) y = x :: insR l y := by
    unfold insR
    simp only [posR, if_pos hxy, List.drop_succ_cons, List.take_succ_cons, List.cons_append]
    split <;> rfl
   obtain ⟨g1, g2⟩ := asc_ins l y h2
   rw [e]
   refine ⟨?_, fun q => ?_⟩
   ·show ((x :: insR l y).map rv).Pairwise (· < ·)
    rw [List.map_cons]
    refine List.pairwise_cons.2 ⟨fun q hq => ?_, g1⟩
    rcases (g2 q).1 hq with rfl | hq
    ·exact hxy
    ·exact h1 q hq
   ·rw [List.map_cons, List.mem_cons, g2 q, List.map_cons, List.mem_cons]
    exact ⟨fun h => h.elim (fun h => .inr (.inl h)) (fun h => h.elim .inl (fun h => .inr (.inr h))), fun h => h.elim (fun h => .inr (.inl h)) (fun h => h.elim .inl (fun h => .inr (.inr h)))⟩
  ·by_cases he : rv x = rv y
   ·have e : insR (x :: l) y = x :: l := by
     unfold insR
     simp [posR, hxy, he]
    rw [e]
    refine ⟨h, fun q => ?_⟩
    rw [List.map_cons, List.mem_cons, he]
    exact ⟨fun h => .inr h, fun h => h.elim (fun h => .inl h) id⟩
   ·have e : insR (x :: l) y = y :: x :: l := by
     unfold insR
     simp [posR, hxy, he]
    rw [e]
    refine ⟨?_, fun q => by simp⟩
    have hlt : rv y < rv x := by grind
    show ((y :: x :: l).map rv).Pairwise (· < ·)
    rw [List.map_cons]
    refine List.pairwise_cons.2 ⟨fun q hq => ?_, h⟩
    rw [List.map_cons] at hq
    rcases List.mem_cons.1 hq with rfl | hq
    ·exact hlt
    ·have := h1 q hq; grind
theorem asc_fold : ∀ (l : List Arc) (S : List R), Asc S → Asc (l.foldl insA S) ∧ ∀ q, q ∈ (l.foldl insA S).map rv ↔ q ∈ S.map rv ∨ ∃ x ∈ l, q = rv x.1 ∨ q = rv x.2
 | [], S, h => ⟨h, fun q => by simp⟩
 | x :: l, S, h => by
  obtain ⟨a1, a2⟩ := asc_ins S x.1 h
  obtain ⟨b1, b2⟩ := asc_ins (insR S x.1) x.2 a1
  obtain ⟨c1, c2⟩ := asc_fold l (insA S x) b1
  refine ⟨c1, fun q => ?_⟩
  rw [List.foldl_cons, c2 q]
  have e : insA S x = insR (insR S x.1) x.2 := rfl
  rw [e, b2 q, a2 q]
  constructor
  ·rintro ((h | h | h) | ⟨z, hz, h⟩)
   ·exact .inr ⟨x, by simp, .inr h⟩
   ·exact .inr ⟨x, by simp, .inl h⟩
   ·exact .inl h
   ·exact .inr ⟨z, by simp [hz], h⟩
  ·rintro (h | ⟨z, hz, h⟩)
   ·exact .inl (.inr (.inr h))
   ·rcases List.mem_cons.1 hz with rfl | hz
    ·rcases h with h | h
     ·exact .inl (.inr (.inl h))
     ·exact .inl (.inl h)
    ·exact .inr ⟨z, hz, h⟩
def mkQ (L : List (List Arc)) : List Rat := (marksR L).map rv
theorem mkQ_asc (L : List (List Arc)) : (mkQ L).Pairwise (· < ·) ∧ ∀ q, q ∈ mkQ L ↔ (q = 0 ∨ q = 1) ∨ ∃ l ∈ L, ∃ x ∈ l, q = rv x.1 ∨ q = rv x.2 := by
 have h0 : Asc [rcan 0, rcan 1] := by
  show ([rcan 0, rcan 1].map rv).Pairwise (· < ·)
  simp only [List.map_cons, List.map_nil, rv_rcan]
  exact List.pairwise_cons.2 ⟨fun q hq => by rw [List.mem_singleton] at hq; subst hq; decide, by simp⟩
 obtain ⟨a, b⟩ := asc_fold L.flatten [rcan 0, rcan 1] h0
 refine ⟨a, fun q => ?_⟩
 have := b q
 rw [show q ∈ mkQ L ↔ q ∈ (L.flatten.foldl insA [rcan 0, rcan 1]).map rv from Iff.rfl, this]
 simp only [List.map_cons, List.map_nil, rv_rcan, List.mem_cons, List.not_mem_nil, or_false]
 constructor
 ·rintro (h | ⟨x, hx, h⟩)
  ·exact .inl h
  ·obtain ⟨l, hl, hx⟩ := List.mem_flatten.1 hx
   exact .inr ⟨l, hl, x, hx, h⟩
 ·rintro (h | ⟨l, hl, x, hx, h⟩)
  ·exact .inl h
  ·exact .inr ⟨x, List.mem_flatten.2 ⟨l, hl, hx⟩, h⟩
def cnt (L : List (List Arc)) (x : Rat) : Nat := L.countP fun l => l.any (inA x)
def opB (op n : Nat) : Bool := !((decide (op = 0) && decide (n = 0)) || ((decide (op = 1) && decide (n < 2)) || (decide (op = 2) && decide (0 < n))))
theorem steps_of {L : List (List Arc)} {M : List Rat} (op : Nat) (hM : ∀ l ∈ L, ∀ x ∈ l, rv x.1 ∈ M ∧ rv x.2 ∈ M) : ∀ (S : List Rat), S.Pairwise (· < ·) → (∀ k ∈ M, (∃ a, S.head? = some a ∧ k ≤ a) ∨ k ∈ S) → Steps (fun x => opB op (cnt L x) = true) (fun p => opB op (cnt L p)) S
 | [], _, _ => trivial
 | [a], _, _ => trivial
 | a :: b :: r, hs, hk => by
  obtain ⟨h1, h2⟩ := List.pairwise_cons.1 hs
  have hab := h1 b (by simp)
  obtain ⟨h3, h4⟩ := List.pairwise_cons.1 h2
  refine ⟨⟨hab, fun x hx1 hx2 => ?_⟩, steps_of op hM (b :: r) h2 fun k hk' => ?_⟩
  ·have hmax : ∀ k ∈ M, k ≤ x → k ≤ a := by
    intro k hkM hkx
    rcases hk k hkM with ⟨a', ha', hle⟩ | hmem
    ·simp only [List.head?_cons, Option.some.injEq] at ha'
     subst ha'; exact hle
    ·rcases List.mem_cons.1 hmem with rfl | hmem
     ·exact Rat.le_refl
     ·rcases List.mem_cons.1 hmem with rfl | hmem
      ·grind
      ·have := h3 k hmem; grind
   have e : cnt L x = cnt L a := by
    unfold cnt
    refine List.countP_congr fun l hl => ?_
    rw [any_mem, any_mem, decide_eq_true_eq, decide_eq_true_eq]
    refine (mark_same (M := M) (fun q hq => ?_) (fun q hq _ => ?_) hx1 hmax).symm
    ·obtain ⟨z, hz, rfl⟩ := List.mem_map.1 hq
     exact (hM l hl z hz).1
    ·obtain ⟨z, hz, rfl⟩ := List.mem_map.1 hq
     exact (hM l hl z hz).2
   show opB op (cnt L x) = true ↔ opB op (cnt L a) = true
   rw [e]
  ·rcases hk k hk' with ⟨a', ha', hle⟩ | hmem
   ·simp only [List.head?_cons, Option.some.injEq] at ha'
    subst ha'
    exact .inl ⟨b, rfl, by grind⟩
   ·rcases List.mem_cons.1 hmem with rfl | hmem
    ·exact .inl ⟨b, rfl, by grind⟩
    ·exact .inr hmem
def cmbQ (op : Nat) (L : List (List Arc)) : List Q2 := cmb (fun p => opB op (cnt L p)) (mkQ L) []
theorem cmbQ_ok (op : Nat) {L : List (List Arc)} (hg : ∀ l ∈ L, ∀ x ∈ l, GoodA x) : Pos (cmbQ op L) ∧ Apart (cmbQ op L) ∧ ∀ x, memL x (cmbQ op L) ↔ 0 ≤ x ∧ x < 1 ∧ opB op (cnt L x) = true := by
 obtain ⟨asc, mem⟩ := mkQ_asc L
 have in01 : ∀ q ∈ mkQ L, 0 ≤ q ∧ q ≤ 1 := by
  intro q hq
  rcases (mem q).1 hq with (rfl | rfl) | ⟨l, hl, x, hx, h⟩
  ·exact ⟨Rat.le_refl, by decide⟩
  ·exact ⟨by decide, Rat.le_refl⟩
  ·have g := hg l hl x hx
   have g1 := g.lo
   have g2 := g.hi
   have g3 := g.lt
   rcases h with rfl | rfl <;> grind
 have h0 : (0 : Rat) ∈ mkQ L := (mem 0).2 (.inl (.inl rfl))
 have h1 : (1 : Rat) ∈ mkQ L := (mem 1).2 (.inl (.inr rfl))
 have hst := steps_of (M := mkQ L) op (fun l hl x hx => ⟨(mem _).2 (.inr ⟨l, hl, x, hx, .inl rfl⟩), (mem _).2 (.inr ⟨l, hl, x, hx, .inr rfl⟩)⟩) (mkQ L) asc fun k hk => .inr hk
 have hhead : (mkQ L).head? = some 0 := by
  match hM : mkQ L, h0, asc, in01 with
  | a :: r, h0, asc, in01 =>
   obtain ⟨p1, _⟩ := List.pairwise_cons.1 asc
   have := (in01 a (by simp)).1
   rcases List.mem_cons.1 h0 with rfl | h0
   ·rfl
   ·have := p1 0 h0; grind
 have hlast : (mkQ L).getLast?.getD 0 = 1 := by
  rcases List.eq_nil_or_concat (mkQ L) with hM | ⟨o, z, hM⟩
  ·rw [hM] at h0; simp at h0
  ·rw [List.concat_eq_append] at hM
   rw [hM] at h1 asc in01 ⊢
   rw [List.getLast?_append, List.getLast?_singleton, Option.some_or, Option.getD_some]
   have hz := (in01 z (by simp)).2
   rcases List.mem_append.1 h1 with h1 | h1
   ·have := (List.pairwise_append.1 asc).2.2 1 h1 z (by simp); grind
   ·rw [List.mem_singleton] at h1; exact h1.symm
 obtain ⟨k1, k2, k3⟩ := cmb_ok (mkQ L) 0 [] hhead hst ⟨by simp [Pos], by simp [Apart], by simp⟩
 refine ⟨k1, k2, fun x => ?_⟩
 have := k3 x
 rw [hlast] at this
 rw [show memL x (cmbQ op L) ↔ memL x (cmb (fun p => opB op (cnt L p)) (mkQ L) []) from Iff.rfl, this]
 simp [memL_nil]
end Go.Num
end
section
set_option linter.unusedVariables false
set_option linter.unusedSimpArgs false
set_option maxRecDepth 100000
namespace Go.Num
def cmbStepR (h : Rat → Bool) (out : List Arc) (p q : R) : List Arc :=
 if h (rv p) then
  match out.getLast? with
  | some z => if rv z.2 = rv p then out.dropLast ++ [(z.1, q)] else out ++ [(p, q)]
  | none => [(p, q)]
 else out
def outAt (h : Rat → Bool) (S : List R) : Nat → List Arc
 | 0 => []
 | i + 1 => cmbStepR h (outAt h S i) (S.getD i (rcan 0)) (S.getD (i + 1) (rcan 0))
def cmbA (op : Nat) (L : List (List Arc)) : List Arc := outAt (fun p => opB op (cnt L p)) (marksR L) ((marksR L).length - 1)
theorem vals_step (h : Rat → Bool) (out : List Arc) (p q : R) : vals (cmbStepR h out p q) = cmbStep h (vals out) (rv p) (rv q) := by
 unfold cmbStepR cmbStep
 split
 ·rcases List.eq_nil_or_concat out with rfl | ⟨o, z, rfl⟩
  ·simp [vals, av]
  ·rw [List.concat_eq_append]
   simp only [vals, List.map_append, List.map_cons, List.map_nil, List.getLast?_append, List.getLast?_singleton, Option.some_or]
   have e : (av z).2 = rv z.2 := rfl
   rw [e]
   split
   ·simp only [List.dropLast_concat, List.map_append, List.map_cons, List.map_nil]; rfl
   ·simp only [List.map_append, List.map_cons, List.map_nil]; rfl
 ·rfl
theorem out_len (h : Rat → Bool) (S : List R) : ∀ i, (outAt h S i).length ≤ i
 | 0 => Nat.le_refl _
 | i + 1 => by
  have := out_len h S i
  simp only [outAt]
  generalize outAt h S i = o at *
  unfold cmbStepR
  split
  ·rcases List.eq_nil_or_concat o with rfl | ⟨o', z, rfl⟩
   ·simp
   ·rw [List.concat_eq_append] at *
    simp only [List.getLast?_append, List.getLast?_singleton, Option.some_or]
    rw [List.length_append] at this
    split
    ·simp only [List.dropLast_concat, List.length_append, List.length_singleton] at *; omega
    ·simp only [List.length_append, List.length_singleton] at *; omega
  ·omega
theorem out_ok {b : Nat} {h : Rat → Bool} {S : List R} (hS : okRs b S) : ∀ i, i < S.length → okAs b (outAt h S i)
 | 0, _ => fun x hx => by simp [outAt] at hx
 | i + 1, hi => by
  have ih := out_ok (h := h) hS i (by omega)
  have g : ∀ j, j < S.length → WLR (S.getD j (rcan 0)) ∧ rl (S.getD j (rcan 0)) ≤ b := by
   intro j hj
   rw [List.getD_eq_getElem?_getD, List.getElem?_eq_getElem hj]
   exact hS _ (List.getElem_mem hj)
  have g1 := g i (by omega)
  have g2 := g (i + 1) hi
  simp only [outAt]
  generalize outAt h S i = o at *
  generalize S.getD i (rcan 0) = p at *
  generalize S.getD (i + 1) (rcan 0) = q at *
  have hpq : okA b (p, q) := ⟨⟨g1.1, g2.1⟩, Nat.max_le.2 ⟨g1.2, g2.2⟩⟩
  unfold cmbStepR
  split
  ·rcases List.eq_nil_or_concat o with rfl | ⟨o', z, rfl⟩
   ·intro x hx
    simp only [List.getLast?_nil, List.mem_singleton] at hx
    subst hx; exact hpq
   ·rw [List.concat_eq_append] at *
    simp only [List.getLast?_append, List.getLast?_singleton, Option.some_or]
    have hz := ih z (by simp)
    intro x hx
    split at hx
    ·rw [List.dropLast_concat] at hx
     rcases List.mem_append.1 hx with hx | hx
     ·exact ih x (by simp [hx])
     ·rw [List.mem_singleton] at hx; subst hx
      exact ⟨⟨hz.1.1, g2.1⟩, Nat.max_le.2 ⟨Nat.le_trans (Nat.le_max_left _ _) hz.2, g2.2⟩⟩
    ·rcases List.mem_append.1 hx with hx | hx
     ·exact ih x hx
     ·rw [List.mem_singleton] at hx; subst hx; exact hpq
  ·exact ih
theorem out_cmb (h : Rat → Bool) (S : List R) : ∀ i, i < S.length → cmb h ((S.map rv).drop i) (vals (outAt h S i)) = cmb h (S.map rv) []
 | 0, _ => rfl
 | i + 1, hi => by
  have ih := out_cmb h S i (by omega)
  rw [← ih]
  have e : ∀ j, j < S.length → (S.map rv).drop j = rv (S.getD j (rcan 0)) :: (S.map rv).drop (j + 1) := by
   intro j hj
   rw [List.drop_eq_getElem_cons (by simpa using hj), List.getElem_map, List.getD_eq_getElem?_getD, List.getElem?_eq_getElem hj]; rfl
  rw [e i (by omega), e (i + 1) hi]
  simp only [cmb, outAt]
  rw [vals_step]
theorem marks_pos (L : List (List Arc)) : 0 < (marksR L).length := by
 have h := ((mkQ_asc L).2 0).2 (.inl (.inl rfl))
 unfold mkQ at h
 have := List.length_pos_of_mem h
 simpa using this
theorem vals_cmbA (op : Nat) (L : List (List Arc)) : vals (cmbA op L) = cmbQ op L := by
 have hp := marks_pos L
 have h := out_cmb (fun p => opB op (cnt L p)) (marksR L) ((marksR L).length - 1) (by omega)
 have e : ((marksR L).map rv).drop ((marksR L).length - 1) = [rv ((marksR L).getD ((marksR L).length - 1) (rcan 0))] := by
  rw [List.drop_eq_getElem_cons (by rw [List.length_map]; omega), List.getElem_map, List.getD_eq_getElem?_getD, List.getElem?_eq_getElem (by omega)]
  simp only [Option.getD_some, List.cons.injEq, true_and]
  exact List.drop_of_length_le (by rw [List.length_map]; omega)
 rw [e] at h
 exact h
end Go.Num
end
