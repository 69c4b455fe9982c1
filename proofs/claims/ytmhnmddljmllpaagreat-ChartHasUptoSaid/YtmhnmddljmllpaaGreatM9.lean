/-
  Parts of the proof, merged: ChartV, ChartR, ChartW, ChartX, ChartY, ChartN.
-/
import Derived.Test.YtmhnmddljmllpaaGreatM8
set_option linter.unusedVariables false
set_option linter.unusedSimpArgs false
/-
  Merging in place, for every length: the function calls itself.
-/
section
set_option linter.unusedVariables false
namespace Go.Abs
open Go.Num

variable {P : Program} {L : List (Nat × Spec)}

theorem mrg_zero {f fc : Nat} (hE : Enters P f) : Sound P f (.own (mrg_G fc 0)) := by
  refine ⟨hE, fun E args vals w I m h d K _ _ hG => ?_⟩
  unfold mrg_G at hG
  split at hG
  · obtain ⟨U, A, B, V, _, _, _, _, hA, _, hN, _⟩ := hG
    have := List.length_pos_iff.2 hA
    omega
  · exact hG.elim

theorem mrgrec_sound (hΓ : Holds P (Gl L)) {f fr fc N : Nat} (hn1 : fr ≠ f) (hn2 : fc ≠ f) (hro : Gl L fr = .own (rot_G fc)) (hcm : Gl L fc = .dat true arccmp_G) (hc : check P f = some (220, (ac_slices_symMergeCmpFunc_g fr f).strip, [])) : Sound P f (.own (mrg_G fc N)) := by
  induction N with
  | zero =>
    obtain ⟨fn, c, h1, h2, h3, _⟩ := check_info hc
    exact mrg_zero (enters_of h1 h2 (by rw [h3]; rfl))
  | succ N ih =>
    have hh : Holds P (Gl ((f, .own (mrg_G fc N)) :: L)) := holds_cons hΓ ih
    refine mrg_sound (Γ := Gl ((f, .own (mrg_G fc N)) :: L)) hh (fs := f) ?_ ?_ ?_ hc
    · unfold Gl; rw [if_neg hn1]; exact hro
    · unfold Gl; rw [if_pos rfl]
    · unfold Gl; rw [if_neg hn2]; exact hcm

end Go.Abs
end

/-
  What the laws of charts say of lists of arcs, plainly.
-/
section
set_option linter.unusedVariables false
namespace Go.Num

theorem floor_01 {q : Rat} (h0 : 0 ≤ q) (h1 : q < 1) : q.floor = 0 := by
  have a : (0 : Int) ≤ q.floor := Rat.le_floor_iff.2 h0
  have b : q.floor < 1 := Rat.floor_lt_iff.2 h1
  omega
theorem frac_01 {q : Rat} (h0 : 0 ≤ q) (h1 : q < 1) : frac q = q := by
  unfold frac; rw [floor_01 h0 h1]
  show q - 0 = q
  grind
theorem frac_ge (q : Rat) : 0 ≤ frac q := by
  unfold frac
  have := Rat.floor_le q
  grind
theorem frac_lt (q : Rat) : frac q < 1 := by
  unfold frac
  have := Rat.lt_floor (x := q)
  grind
theorem frac_frac (q : Rat) : frac (frac q) = frac q := frac_01 (frac_ge q) (frac_lt q)
theorem frac_int (n : Int) : frac (n : Rat) = 0 := by
  unfold frac; rw [Rat.floor_intCast]; grind
theorem frac_one : frac 1 = 0 := frac_int 1

instance (x : Rat) (a : Q2) : Decidable (mem x a) := by unfold mem; infer_instance
instance (x : Rat) (l : List Q2) : Decidable (memL x l) := by unfold memL; infer_instance

theorem any_mem (y : Rat) (l : List Arc) : l.any (inA y) = decide (memL y (vals l)) := by
  cases h : l.any (inA y) with
  | true =>
    obtain ⟨x, hx, hy⟩ := List.any_eq_true.1 h
    unfold inA at hy
    simp only [Bool.and_eq_true, decide_eq_true_eq] at hy
    exact (decide_eq_true ⟨av x, List.mem_map.2 ⟨x, hx, rfl⟩, hy.1, hy.2⟩).symm
  | false =>
    refine (decide_eq_false fun ⟨a, ha, h1, h2⟩ => ?_).symm
    obtain ⟨x, hx, rfl⟩ := List.mem_map.1 ha
    rw [List.any_eq_false] at h
    refine h x hx ?_
    unfold inA
    simp only [Bool.and_eq_true, decide_eq_true_eq]
    exact ⟨h1, h2⟩

theorem chk_good {l : List Arc} (h : chk [l] = 0) : l.length ≤ 64 ∧ ∀ x ∈ l, GoodA x :=
  ⟨(chk1_0 (chk_1 l ▸ h)).1, fun x hx => badA_f.1 ((chk1_0 (chk_1 l ▸ h)).2 x hx)⟩
theorem chk_val {l : List Arc} (h : chk [l] = 0) : Pos (vals l) ∧ In01 (vals l) := by
  obtain ⟨_, h2⟩ := chk_good h
  refine ⟨fun a ha => ?_, fun a ha => ?_⟩
  · obtain ⟨x, hx, rfl⟩ := List.mem_map.1 ha
    exact (h2 x hx).lt
  · obtain ⟨x, hx, rfl⟩ := List.mem_map.1 ha
    exact ⟨(h2 x hx).lo, (h2 x hx).hi⟩

/-- Do two charts differ at a position? -/
def diff (l m : List Arc) (y : Rat) : Bool := l.any (inA (frac y)) != m.any (inA (frac y))
def mk1 (x : Arc) : List Rat := [rv x.1, frac (rv x.2)]
def mks (l : List Arc) : List Rat := l.flatMap mk1

theorem norms_tell {l m : List Arc} (hl : chk [l] = 0) (hm : chk [m] = 0) : (mks l ++ mks m).any (diff l m) = !decide (nrm (vals l) = nrm (vals m)) := by
  obtain ⟨pl, il⟩ := chk_val hl
  obtain ⟨pm, im⟩ := chk_val hm
  obtain ⟨_, gl⟩ := chk_good hl
  obtain ⟨_, gm⟩ := chk_good hm
  have hd : ∀ y, diff l m y = false ↔ (memL (frac y) (vals l) ↔ memL (frac y) (vals m)) := by
    intro y
    unfold diff
    rw [any_mem, any_mem]
    simp
  by_cases h : nrm (vals l) = nrm (vals m)
  · rw [decide_eq_true h, Bool.not_true, List.any_eq_false]
    intro y _
    rw [(hd y).2 ((nrm_eq_iff pl pm).1 h (frac y))]
    simp
  · rw [decide_eq_false h, Bool.not_false]
    cases hall : (mks l ++ mks m).any (diff l m) with
    | true => rfl
    | false =>
      exfalso
      apply h
      rw [nrm_eq_iff pl pm]
      rw [List.any_eq_false] at hall
      have key : ∀ (n : List Arc), (∀ x ∈ n, GoodA x) → (∀ a ∈ vals n, a.1 ∈ (mks n).map frac) ∧ (∀ a ∈ vals n, a.2 < 1 → a.2 ∈ (mks n).map frac) := by
        intro n hn
        refine ⟨fun a ha => ?_, fun a ha h1 => ?_⟩
        · obtain ⟨x, hx, rfl⟩ := List.mem_map.1 ha
          have g := hn x hx
          refine List.mem_map.2 ⟨rv x.1, List.mem_flatMap.2 ⟨x, hx, by simp [mk1]⟩, frac_01 g.lo ?_⟩
          have := g.lt; have := g.hi; grind
        · obtain ⟨x, hx, rfl⟩ := List.mem_map.1 ha
          have g := hn x hx
          have h0 : 0 ≤ rv x.2 := by have := g.lt; have := g.lo; grind
          refine List.mem_map.2 ⟨frac (rv x.2), List.mem_flatMap.2 ⟨x, hx, by simp [mk1]⟩, ?_⟩
          rw [frac_frac]
          exact frac_01 h0 h1
      obtain ⟨l1, l2⟩ := key l gl
      obtain ⟨m1, m2⟩ := key m gm
      refine fun x => marks_tell (M := (mks l ++ mks m).map frac) ?_ ?_ ?_ ?_ il im ?_ x
      · intro a ha; rw [List.map_append]; exact List.mem_append.2 (.inl (l1 a ha))
      · intro a ha h; rw [List.map_append]; exact List.mem_append.2 (.inl (l2 a ha h))
      · intro a ha; rw [List.map_append]; exact List.mem_append.2 (.inr (m1 a ha))
      · intro a ha h; rw [List.map_append]; exact List.mem_append.2 (.inr (m2 a ha h))
      · intro k hk
        obtain ⟨y, hy, rfl⟩ := List.mem_map.1 hk
        have := hall y hy
        exact (hd y).1 (by simpa using this)

/-! ## where the ends of a normal form come from -/

def endsIn (l p : List Q2) : Prop := ∀ q ∈ l, (∃ a ∈ p, q.1 = a.1) ∧ ∃ a ∈ p, q.2 = a.2

theorem swStep_ends {w : Sw} {a : Q2} {p : List Q2} (h : endsIn (swOut w) p) (ha : a ∈ p) : endsIn (swOut (swStep w a)) p := by
  match w, h with
  | none, h =>
    intro q hq
    simp [swStep, swOut] at hq
    subst hq
    exact ⟨⟨q, ha, rfl⟩, ⟨q, ha, rfl⟩⟩
  | some (o, z), h =>
    simp only [swStep]
    have hz := h z (by simp [swOut])
    split
    · intro q hq
      simp only [swOut, List.mem_append, List.mem_singleton] at hq
      rcases hq with hq | rfl
      · exact h q (by simp [swOut, hq])
      · refine ⟨hz.1, ?_⟩
        simp only [mxQ]
        split
        · exact hz.2
        · exact ⟨a, ha, rfl⟩
    · intro q hq
      simp only [swOut, List.mem_append, List.mem_singleton] at hq
      rcases hq with hq | rfl
      · exact h q (by simpa [swOut] using hq)
      · exact ⟨⟨q, ha, rfl⟩, ⟨q, ha, rfl⟩⟩

theorem fold_ends {p : List Q2} : ∀ (l : List Q2) (w : Sw), endsIn (swOut w) p → (∀ a ∈ l, a ∈ p) → endsIn (swOut (l.foldl swStep w)) p
  | [], w, h, _ => h
  | a :: l, w, h, hl => fold_ends l _ (swStep_ends h (hl a (by simp))) fun b hb => hl b (by simp [hb])

theorem nrm_ends (l : List Q2) : endsIn (nrm l) l :=
  fold_ends (p := l) _ none (fun q hq => by simp [swOut] at hq) fun a ha => (List.mergeSort_perm l _).mem_iff.1 ha

/-- How long the numbers of a list of arcs are. -/
def rzQ (b : Nat) (l : List Q2) : Prop := ∀ q ∈ l, rz q.1 ≤ b ∧ rz q.2 ≤ b
theorem rzQ_vals {b : Nat} {l : List Arc} (h : okAs b l) : rzQ b (vals l) := fun q hq => by
  obtain ⟨x, hx, rfl⟩ := List.mem_map.1 hq
  have := h x hx
  exact ⟨Nat.le_trans (rz_rv this.1.1) (Nat.le_trans (Nat.le_max_left _ _) this.2), Nat.le_trans (rz_rv this.1.2) (Nat.le_trans (Nat.le_max_right _ _) this.2)⟩
theorem rzQ_nrm {b : Nat} {l : List Q2} (h : rzQ b l) : rzQ b (nrm l) := fun q hq => by
  obtain ⟨⟨a, ha, e1⟩, ⟨c, hc, e2⟩⟩ := nrm_ends l q hq
  rw [e1, e2]
  exact ⟨(h a ha).1, (h c hc).2⟩
theorem okAs_nrm {b : Nat} {l : List Arc} (h : okAs b l) : okAs b ((nrm (vals l)).map acan) := okAs_can (rzQ_nrm (rzQ_vals h))

/-- What Norm returns is a chart again. -/
theorem chk_nrm {l : List Arc} (h : chk [l] = 0) : chk [(nrm (vals l)).map acan] = 0 := by
  obtain ⟨p, i⟩ := chk_val h
  refine chk_can ?_ (nrm_ok p).1 (nrm_in p i)
  have := nrm_len (vals l)
  have := (chk_good h).1
  simp only [vals, List.length_map] at *
  omega

theorem validL_t {l : List Arc} (h : validL l = true) : chk [l] = 0 ∧ l.length ≤ 20 := by
  unfold validL at h
  simp only [Bool.and_eq_true, Bool.not_eq_true', decide_eq_true_eq] at h
  obtain ⟨h1, h2⟩ := h
  refine ⟨by rw [chk_1]; exact h2, ?_⟩
  refine Nat.le_of_not_lt fun h20 => ?_
  have h64 := (chk1_0 h2).1
  unfold largeL at h1
  rw [if_pos h20, decide_eq_true h64] at h1
  simp at h1

end Go.Num
end

/-
  The chart's functions keep their contracts: not, meet, Union, Meet, Not.
-/
section
set_option linter.unusedVariables false
set_option linter.unusedSimpArgs false
set_option maxRecDepth 100000
namespace Go.Num
def not1 (f t : Rat) : List Q2 := if f < t then [(f, t)] else []
/-- The positions before the arcs, and the last end. -/
def notGo : Rat → List Q2 → List Q2
  | f, [] => not1 f 1
  | f, a :: l => not1 f a.1 ++ notGo a.2 l
def notL (l : List Q2) : List Q2 := notGo 0 l
/-- What was passed over: the gaps, and the last end. -/
def gaps : Rat → List Q2 → List Q2 × Rat
  | f, [] => ([], f)
  | f, a :: l => let r := gaps a.2 l; (not1 f a.1 ++ r.1, r.2)
theorem notGo_gaps : ∀ (f : Rat) (l : List Q2), notGo f l = (gaps f l).1 ++ not1 (gaps f l).2 1
  | f, [] => by simp [notGo, gaps]
  | f, a :: l => by simp only [notGo, gaps]; rw [notGo_gaps a.2 l, List.append_assoc]
theorem gaps_snoc : ∀ (f : Rat) (l : List Q2) (a : Q2), gaps f (l ++ [a]) = ((gaps f l).1 ++ not1 (gaps f l).2 a.1, a.2)
  | f, [], a => by simp [gaps]
  | f, b :: l, a => by simp only [List.cons_append, gaps]; rw [gaps_snoc b.2 l a]; simp
def meet1 (x y : Q2) : List Q2 := not1 (mxQ x.1 y.1) (mnQ x.2 y.2)
def meetL (a b : List Q2) : List Q2 := a.flatMap fun x => b.flatMap fun y => meet1 x y

theorem not1_len (f t : Rat) : (not1 f t).length ≤ 1 := by unfold not1; split <;> simp
theorem gaps_len : ∀ (f : Rat) (l : List Q2), (gaps f l).1.length ≤ l.length
  | f, [] => by simp [gaps]
  | f, a :: l => by
    have h1 := gaps_len a.2 l
    have h2 := not1_len f a.1
    simp only [gaps, List.length_append, List.length_cons]; omega
theorem notL_len (l : List Q2) : (notL l).length ≤ l.length + 1 := by
  unfold notL; rw [notGo_gaps, List.length_append]
  have h1 := gaps_len 0 l
  have h2 := not1_len (gaps 0 l).2 1
  omega
theorem flat_len {α β : Type} (f : α → List β) (n : Nat) (h : ∀ x, (f x).length ≤ n) : ∀ l : List α, (l.flatMap f).length ≤ l.length * n
  | [] => by simp
  | x :: l => by
    have h1 := h x
    have h2 := flat_len f n h l
    simp only [List.flatMap_cons, List.length_append, List.length_cons, Nat.add_mul, Nat.one_mul]; omega
theorem meetL_len (a b : List Q2) : (meetL a b).length ≤ a.length * b.length := by
  refine flat_len _ _ (fun x => ?_) a
  have := flat_len (fun y => meet1 x y) 1 (fun y => not1_len _ _) b
  simpa using this

theorem rz_gaps {b : Nat} : ∀ (l : List Q2) (f : Rat), rz f ≤ b → rzQ b l → rzQ b (gaps f l).1 ∧ rz (gaps f l).2 ≤ b
  | [], f, h, _ => ⟨fun q hq => by simp [gaps] at hq, h⟩
  | a :: l, f, h, hl => by
    have ha := hl a (by simp)
    obtain ⟨h1, h2⟩ := rz_gaps l a.2 ha.2 fun q hq => hl q (by simp [hq])
    refine ⟨fun q hq => ?_, h2⟩
    simp only [gaps, List.mem_append] at hq
    rcases hq with hq | hq
    · unfold not1 at hq
      split at hq
      · rw [List.mem_singleton] at hq; subst hq; exact ⟨h, ha.1⟩
      · simp at hq
    · exact h1 q hq
theorem rz_mx {p q : Rat} {b : Nat} (hp : rz p ≤ b) (hq : rz q ≤ b) : rz (mxQ p q) ≤ b := by unfold mxQ; split <;> assumption
theorem rz_mn {p q : Rat} {b : Nat} (hp : rz p ≤ b) (hq : rz q ≤ b) : rz (mnQ p q) ≤ b := by unfold mnQ; split <;> assumption

end Go.Num

namespace Go.Abs
open Go.Num

variable {P : Program} {Γ : Nat → Spec}

-- theorem g_onR g_onW
-- theorem g_onAs
-- theorem g_onA
def cnot_G (l : List AV) (K : AV → Prop) : Prop :=
  match l with
  | [a] => onAs (fun l => l.length ≤ 1000 ∧ okAs 1000000000 l ∧ K (.one (.slice (((notL (vals l)).map acan).map aC)))) a
  | _ => False
theorem cnot_Ge (a : AV) (K : AV → Prop) : cnot_G [a] K = (onAs (fun l => l.length ≤ 1000 ∧ okAs 1000000000 l ∧ K (.one (.slice (((notL (vals l)).map acan).map aC)))) a) := propext Iff.rfl
@[congr] theorem cnot_Gc {K : AV → Prop} {l l' : List AV} (h : l = l') : cnot_G l K = cnot_G l' K := by subst h; rfl
attribute [go_sem] cnot_Ge
attribute [go_sem ↓] cnot_Ge
theorem cnot_good : Good cnot_G := good_of fun as => by
  unfold cnot_G
  split
  · repeat (first | exact .ret _ | exact .of (fun K hk => hk.elim) | (refine .and fun _ => ?_) | (refine g_onWs fun _ => ?_) | (refine g_onR fun _ => ?_) | (refine g_onAs fun _ => ?_) | (refine g_onA fun _ => ?_) | (refine g_asInt (fun _ _ => ?_) _) | (refine g_asBool (fun _ => ?_) _) | (refine g_onE ?_ ?_) | (intro _) | assumption)
  · exact .of fun K hk => hk.elim

def cmeet_G (l : List AV) (K : AV → Prop) : Prop :=
  match l with
  | [a, b] => onAs (fun l => onAs (fun m => l.length ≤ 1000 ∧ m.length ≤ 1000 ∧ okAs 1000000000 l ∧ okAs 1000000000 m ∧ K (.one (.slice (((meetL (vals l) (vals m)).map acan).map aC)))) b) a
  | _ => False
theorem cmeet_Ge (a b : AV) (K : AV → Prop) : cmeet_G [a, b] K = (onAs (fun l => onAs (fun m => l.length ≤ 1000 ∧ m.length ≤ 1000 ∧ okAs 1000000000 l ∧ okAs 1000000000 m ∧ K (.one (.slice (((meetL (vals l) (vals m)).map acan).map aC)))) b) a) := propext Iff.rfl
@[congr] theorem cmeet_Gc {K : AV → Prop} {l l' : List AV} (h : l = l') : cmeet_G l K = cmeet_G l' K := by subst h; rfl
attribute [go_sem] cmeet_Ge
attribute [go_sem ↓] cmeet_Ge
theorem cmeet_good : Good cmeet_G := good_of fun as => by
  unfold cmeet_G
  split
  · repeat (first | exact .ret _ | exact .of (fun K hk => hk.elim) | (refine .and fun _ => ?_) | (refine g_onWs fun _ => ?_) | (refine g_onR fun _ => ?_) | (refine g_onAs fun _ => ?_) | (refine g_onA fun _ => ?_) | (refine g_asInt (fun _ _ => ?_) _) | (refine g_asBool (fun _ => ?_) _) | (refine g_onE ?_ ?_) | (intro _) | assumption)
  · exact .of fun K hk => hk.elim


/-- linkwork/chart.not (40) [.tmp 2] -/
def ac_chart_not (f_fraction_Cmp f_chart_own f_chart_one : Nat) : AC := (.seq (.ops false [⟨some 2, none, .mv (.c (.one .emp))⟩])
 (.fg [0] (.seq (.ops false [⟨some 3, none, .mv (.c (.one .emp))⟩])
 (.fg [0, 3] (.seq (.ops false [⟨some 7, none, .build [.z [(.lit (.bool false)), .emp, .emp]]⟩, ⟨some 4, none, .alloc [(.lit (.bool false)), .emp, .emp]⟩, ⟨none, none, .st none 3 (.t 4) (.t 7)⟩])
 (.fg [0, 3, 4] (.seq (.seq (.ops false [⟨some 8, none, .mv (.t 0)⟩, ⟨some 9, none, .len (.t 8)⟩, ⟨some 10, none, .mv (.c (.one (.lit (.int .i64 0))))⟩])
 (.fg [3, 4, 8, 9, 10] (.block 0 (.loop (.seq (.ops false [⟨some 11, none, .bin .lss (.t 10) (.t 9)⟩])
 (.fg [3, 4, 8, 9, 10, 11] (.seq (.cond (.t 11) .skip (.exit 0))
 (.fg [3, 4, 8, 9, 10] (.seq (.block 1 (.seq (.ops false [⟨some 12, none, .idx 6 (.t 8) (.t 10)⟩, ⟨some 13, none, .ld none 6 true (.t 12)⟩, ⟨some 6, none, .alloc [(.lit (.bool false)), .emp, .emp, (.lit (.bool false)), .emp, .emp]⟩, ⟨none, none, .st none 6 (.t 6) (.t 13)⟩])
 (.fg [3, 4, 6, 8, 9, 10] (.seq (.seq (.ops false [⟨some 14, none, .ld none 3 true (.t 4)⟩, ⟨some 15, none, .fa 0 (.t 6)⟩, ⟨some 16, none, .ld none 3 true (.t 15)⟩, ⟨some 17, none, .call f_fraction_Cmp [(.t 14), (.t 16)]⟩, ⟨some 18, none, .bin .lss (.t 17) (.c (.one (.lit (.int .i64 0))))⟩])
 (.fg [3, 4, 6, 8, 9, 10, 18] (.cond (.t 18) (.ops false [⟨some 19, none, .mv (.t 3)⟩, ⟨some 20, none, .ld none 3 true (.t 4)⟩, ⟨some 21, none, .fa 0 (.t 6)⟩, ⟨some 22, none, .ld none 3 true (.t 21)⟩, ⟨some 23, none, .call f_chart_own [(.t 20), (.t 22)]⟩, ⟨some 24, none, .row 6 [[.x 6 (.t 23)]]⟩, ⟨some 25, none, .app 6 (.t 19) (.t 24)⟩, ⟨some 3, none, .mv (.t 25)⟩]) .skip)))
 (.fg [3, 4, 6, 8, 9, 10] (.ops false [⟨some 26, none, .fa 3 (.t 6)⟩, ⟨some 27, none, .ld none 3 true (.t 26)⟩, ⟨none, none, .st none 3 (.t 4) (.t 27)⟩]))))))
 (.fg [3, 4, 8, 9, 10] (.ops false [⟨some 28, none, .bin .add (.t 10) (.c (.one (.lit (.int .i64 1))))⟩, ⟨some 10, none, .mv (.t 28)⟩])))))))))))
 (.fg [3, 4] (.seq (.seq (.ops true [⟨some 29, none, .ld none 3 true (.t 4)⟩, ⟨some 30, none, .call f_chart_one []⟩, ⟨some 31, none, .call f_fraction_Cmp [(.t 29), (.t 30)]⟩, ⟨some 32, none, .bin .lss (.t 31) (.c (.one (.lit (.int .i64 0))))⟩])
 (.fg [3, 4, 32] (.cond (.t 32) (.ops true [⟨some 33, none, .mv (.t 3)⟩, ⟨some 34, none, .ld none 3 true (.t 4)⟩, ⟨some 35, none, .call f_chart_one []⟩, ⟨some 36, none, .call f_chart_own [(.t 34), (.t 35)]⟩, ⟨some 37, none, .row 6 [[.x 6 (.t 36)]]⟩, ⟨some 38, none, .app 6 (.t 33) (.t 37)⟩, ⟨some 3, none, .mv (.t 38)⟩]) .skip)))
 (.fg [3] (.seq (.ops false [⟨some 39, none, .mv (.t 3)⟩, ⟨some 2, none, .mv (.t 39)⟩])
 .ret)))))))))))

/-- linkwork/chart.meet (47) [.tmp 4] -/
def ac_chart_meet (f_fraction_Max f_fraction_Min f_fraction_Cmp : Nat) : AC := (.seq (.ops false [⟨some 4, none, .mv (.c (.one .emp))⟩])
 (.fg [0, 1] (.seq (.ops false [⟨some 5, none, .mv (.c (.one .emp))⟩])
 (.fg [0, 1, 5] (.seq (.seq (.ops false [⟨some 12, none, .mv (.t 0)⟩, ⟨some 13, none, .len (.t 12)⟩, ⟨some 14, none, .mv (.c (.one (.lit (.int .i64 0))))⟩])
 (.fg [1, 5, 12, 13, 14] (.block 0 (.loop (.seq (.ops false [⟨some 15, none, .bin .lss (.t 14) (.t 13)⟩])
 (.fg [1, 5, 12, 13, 14, 15] (.seq (.cond (.t 15) .skip (.exit 0))
 (.fg [1, 5, 12, 13, 14] (.seq (.block 1 (.seq (.ops false [⟨some 16, none, .idx 6 (.t 12) (.t 14)⟩, ⟨some 17, none, .ld none 6 true (.t 16)⟩, ⟨some 7, none, .alloc [(.lit (.bool false)), .emp, .emp, (.lit (.bool false)), .emp, .emp]⟩, ⟨none, none, .st none 6 (.t 7) (.t 17)⟩])
 (.fg [1, 5, 7, 12, 13, 14] (.seq (.ops false [⟨some 18, none, .mv (.t 1)⟩, ⟨some 19, none, .len (.t 18)⟩, ⟨some 20, none, .mv (.c (.one (.lit (.int .i64 0))))⟩])
 (.fg [1, 5, 7, 12, 13, 14, 18, 19, 20] (.block 2 (.loop (.seq (.ops false [⟨some 21, none, .bin .lss (.t 20) (.t 19)⟩])
 (.fg [1, 5, 7, 12, 13, 14, 18, 19, 20, 21] (.seq (.cond (.t 21) .skip (.exit 2))
 (.fg [1, 5, 7, 12, 13, 14, 18, 19, 20] (.seq (.block 3 (.seq (.ops false [⟨some 22, none, .idx 6 (.t 18) (.t 20)⟩, ⟨some 23, none, .ld none 6 true (.t 22)⟩, ⟨some 9, none, .alloc [(.lit (.bool false)), .emp, .emp, (.lit (.bool false)), .emp, .emp]⟩, ⟨none, none, .st none 6 (.t 9) (.t 23)⟩])
 (.fg [1, 5, 7, 9, 12, 13, 14, 18, 19, 20] (.seq (.ops true [⟨some 24, none, .fa 0 (.t 7)⟩, ⟨some 25, none, .ld none 3 true (.t 24)⟩, ⟨some 26, none, .fa 0 (.t 9)⟩, ⟨some 27, none, .ld none 3 true (.t 26)⟩, ⟨some 28, none, .call f_fraction_Max [(.t 25), (.t 27)]⟩, ⟨some 29, none, .fa 3 (.t 7)⟩, ⟨some 30, none, .ld none 3 true (.t 29)⟩, ⟨some 31, none, .fa 3 (.t 9)⟩, ⟨some 32, none, .ld none 3 true (.t 31)⟩, ⟨some 33, none, .call f_fraction_Min [(.t 30), (.t 32)]⟩, ⟨some 10, none, .alloc [(.lit (.bool false)), .emp, .emp]⟩, ⟨some 11, none, .alloc [(.lit (.bool false)), .emp, .emp]⟩, ⟨none, none, .st none 3 (.t 10) (.t 28)⟩, ⟨none, none, .st none 3 (.t 11) (.t 33)⟩])
 (.fg [1, 5, 7, 10, 11, 12, 13, 14, 18, 19, 20] (.seq (.ops false [⟨some 34, none, .ld none 3 true (.t 10)⟩, ⟨some 35, none, .ld none 3 true (.t 11)⟩, ⟨some 36, none, .call f_fraction_Cmp [(.t 34), (.t 35)]⟩, ⟨some 37, none, .bin .lss (.t 36) (.c (.one (.lit (.int .i64 0))))⟩])
 (.fg [1, 5, 7, 10, 11, 12, 13, 14, 18, 19, 20, 37] (.cond (.t 37) (.ops false [⟨some 38, none, .mv (.t 5)⟩, ⟨some 39, none, .ld none 3 true (.t 10)⟩, ⟨some 40, none, .ld none 3 true (.t 11)⟩, ⟨some 41, none, .build [.x 3 (.t 39), .x 3 (.t 40)]⟩, ⟨some 42, none, .row 6 [[.x 6 (.t 41)]]⟩, ⟨some 43, none, .app 6 (.t 38) (.t 42)⟩, ⟨some 5, none, .mv (.t 43)⟩]) .skip))))))))
 (.fg [1, 5, 7, 12, 13, 14, 18, 19, 20] (.ops false [⟨some 44, none, .bin .add (.t 20) (.c (.one (.lit (.int .i64 1))))⟩, ⟨some 20, none, .mv (.t 44)⟩]))))))))))))))
 (.fg [1, 5, 12, 13, 14] (.ops false [⟨some 45, none, .bin .add (.t 14) (.c (.one (.lit (.int .i64 1))))⟩, ⟨some 14, none, .mv (.t 45)⟩])))))))))))
 (.fg [5] (.seq (.ops false [⟨some 46, none, .mv (.t 5)⟩, ⟨some 4, none, .mv (.t 46)⟩])
 .ret)))))))


theorem okB_0 {h h' : Nat → HB} {z : Nat} {b : Bool} {y : R} (e : y = rcan 0) : okB h h' (some ⟨[[.lit (.bool false), .emp, .emp]], z, b⟩) (some ⟨[[cb y, cn y, cd y]], z, b⟩) := by
  subst e
  rw [rcan_zero]
  exact ⟨⟨rfl, rfl⟩, .inr ⟨⟨rfl, rfl, rfl, trivial⟩, trivial⟩⟩

theorem cnot_sound (hΓ : Holds P Γ) {f fc fo f1 : Nat} (hcm : Γ fc = .dat true rcmp_G) (ho : Γ fo = .dat false cown_G) (h1 : Γ f1 = .dat false cone_G) (hc : check P f = some (40, (ac_chart_not fc fo f1).strip, [.tmp 2])) : Sound P f (.dat false cnot_G) := by
  refine sound_dat hc cnot_good hΓ (fun args K hcl hfi hG => ?_)
  match args, hG with
  | [a], hG =>
    obtain ⟨l, rfl, hwl, hlen, hok, hK⟩ := hG
    refine ⟨by simp, ?_⟩
    simp only [go_sem, ↓reduceIte, Nat.reduceEqDiff, Nat.reduceAdd, Nat.reduceLT, Nat.reduceLeDiff, Int.reduceToNat, Nat.reducePow, Nat.reduceMul, reduceCtorEq, ac_chart_not, hcm, ho, h1]
    intro _
    refine wpA_loop (fun p : Nat × R × List Q2 => match p.2.2 with
        | [] => ⟨mkV [(3, .one .emp), (4, .one (.ptr 4 1 0 0)), (8, asA l), (9, .one (.lit (.int .i64 l.length))), (10, .one (.lit (.int .i64 p.1)))], mkH [(4, ⟨1, some ⟨[[cb p.2.1, cn p.2.1, cd p.2.1]], 3, true⟩⟩)]⟩
        | q :: L => ⟨mkV [(3, .one (.own 25 1 6 0 (q :: L).length)), (4, .one (.ptr 4 1 0 0)), (8, asA l), (9, .one (.lit (.int .i64 l.length))), (10, .one (.lit (.int .i64 p.1)))], mkH [(4, ⟨1, some ⟨[[cb p.2.1, cn p.2.1, cd p.2.1]], 3, true⟩⟩), (25, ⟨1, some ⟨((q :: L).map acan).map aC, 6, true⟩⟩)]⟩)
      (fun p => p.1 ≤ l.length ∧ (rv p.2.1 = (gaps 0 (vals (l.take p.1))).2 ∧ p.2.2 = (gaps 0 (vals (l.take p.1))).1) ∧ WLR p.2.1 ∧ rl p.2.1 ≤ 1000000000) (fun p => l.length - p.1) (0, rcan 0, []) ?_ ?_ ?_
    · exact weak_lit (by simp [okS, okV, okC, okL, okH, okB, okE, mkV_cons, mkV_nil, mkH_cons, mkH_nil, wsA, ws, asA, as]) ⟨okB_0 rfl, trivial⟩
    · exact ⟨Nat.zero_le _, ⟨by simp only [rv_rcan]; rfl, rfl⟩, WLR_rcan _, by rw [rl_can, rz_zero]; decide⟩
    · rintro ⟨i, y, L⟩ ⟨hi, ⟨hy, hL⟩, hyw, hyl⟩
      simp only at hi hy hL hyw hyl
      have hLl : L.length ≤ i := by
        have := gaps_len 0 (vals (l.take i))
        rw [← hL] at this
        simp only [vals, List.length_map, List.length_take] at this
        omega
      have hyl' : rl y ≤ 4294967296 := by omega
      by_cases hlt : i < l.length
      · obtain ⟨x, hx⟩ : ∃ x, l.getD i a0 = x := ⟨_, rfl⟩
        have hx0 : l[i]? = some x := by rw [← hx, List.getD_eq_getElem?_getD, List.getElem?_eq_getElem hlt]; rfl
        have hox := hok x (List.mem_of_getElem? hx0)
        have hx1 : rl x.1 ≤ 1000000000 := Nat.le_trans (Nat.le_max_left _ _) hox.2
        have hx2 : rl x.2 ≤ 1000000000 := Nat.le_trans (Nat.le_max_right _ _) hox.2
        have hx1' : rl x.1 ≤ 4294967296 := by omega
        have hx3 := hox.1.1
        have hx4 := hox.1.2
        have e : vals (l.take (i + 1)) = vals (l.take i) ++ [av x] := by rw [List.take_add_one, hx0]; simp [vals]
        have hg : (gaps 0 (vals (l.take (i + 1)))).1 = L ++ not1 (rv y) (rv x.1) ∧ (gaps 0 (vals (l.take (i + 1)))).2 = rv x.2 := by
          rw [e, gaps_snoc, ← hy, ← hL]; exact ⟨rfl, rfl⟩
        match L, hL, hLl, hg with
        | [], hL, hLl, hg =>
          simp only [go_sem, ↓reduceIte, Nat.reduceEqDiff, Nat.reduceAdd, Nat.reduceLT, Nat.reduceLeDiff, Int.reduceToNat, Nat.reducePow, Nat.reduceMul, reduceCtorEq, hcm, ho, h1, hlt, hx, aC_eq, hx1', hx3, hx4, hyw, hyl', ordQ_lt]
          refine ⟨fun hc1 => ⟨by simp, by omega, (i + 1, x.2, [(rv y, rv x.1)]), weak_lit (by simp [okS, okV, okC, okL, okH, okB, okE, mkV_cons, mkV_nil, mkH_cons, mkH_nil, wsA, ws, asA, as]) ?_, ⟨by (try simp only); omega, ⟨hg.2.symm, ?_⟩, hx4, hx2⟩, by (try simp only); omega⟩, fun hc1 => ⟨by omega, (i + 1, x.2, []), weak_lit (by simp [okS, okV, okC, okL, okH, okB, okE, mkV_cons, mkV_nil, mkH_cons, mkH_nil, wsA, ws, asA, as]) ⟨okB_r, trivial⟩, ⟨by (try simp only); omega, ⟨hg.2.symm, ?_⟩, hx4, hx2⟩, by (try simp only); omega⟩⟩
          · refine ⟨okB_r, okB_a (l' := ([(rv y, rv x.1)] : List Q2).map acan) ?_, trivial⟩
            simp [aC, acan]
          · rw [hg.1]; unfold not1; rw [if_pos hc1]; rfl
          · rw [hg.1]; unfold not1; rw [if_neg hc1]; rfl
        | q :: L, hL, hLl, hg =>
          simp only [go_sem, ↓reduceIte, Nat.reduceEqDiff, Nat.reduceAdd, Nat.reduceLT, Nat.reduceLeDiff, Int.reduceToNat, Nat.reducePow, Nat.reduceMul, reduceCtorEq, hcm, ho, h1, hlt, hx, aC_eq, hx1', hx3, hx4, hyw, hyl', ordQ_lt]
          simp only [List.length_cons] at hLl
          refine ⟨fun hc1 => ⟨by simp, by omega, by omega, (i + 1, x.2, q :: (L ++ [(rv y, rv x.1)])), weak_lit (by simp [okS, okV, okC, okL, okH, okB, okE, mkV_cons, mkV_nil, mkH_cons, mkH_nil, wsA, ws, asA, as]) ?_, ⟨by (try simp only); omega, ⟨hg.2.symm, ?_⟩, hx4, hx2⟩, by (try simp only); omega⟩, fun hc1 => ⟨by omega, (i + 1, x.2, q :: L), weak_lit (by simp [okS, okV, okC, okL, okH, okB, okE, mkV_cons, mkV_nil, mkH_cons, mkH_nil, wsA, ws, asA, as]) ?_, ⟨by (try simp only); omega, ⟨hg.2.symm, ?_⟩, hx4, hx2⟩, by (try simp only); omega⟩⟩
          · refine ⟨okB_r, okB_a (l' := (q :: (L ++ [(rv y, rv x.1)]) : List Q2).map acan) ?_, trivial⟩
            simp [aC, acan]
          · rw [hg.1]; unfold not1; rw [if_pos hc1]; rfl
          · exact ⟨okB_r, okB_a (l' := (q :: L).map acan) rfl, trivial⟩
          · rw [hg.1]; unfold not1; rw [if_neg hc1]; simp
      · have hfin : notL (vals l) = L ++ not1 (rv y) 1 := by
          unfold notL
          rw [notGo_gaps]
          rw [List.take_of_length_le (by omega)] at hy hL
          rw [← hy, ← hL]
        rw [hfin] at hK
        have hz1 : rz 1 ≤ 4294967296 := by have := rz_one; omega
        match L, hL, hLl, hK with
        | [], hL, hLl, hK =>
          simp only [go_sem, ↓reduceIte, Nat.reduceEqDiff, Nat.reduceAdd, Nat.reduceLT, Nat.reduceLeDiff, Int.reduceToNat, Nat.reducePow, Nat.reduceMul, reduceCtorEq, hcm, ho, h1, hlt, hyw, hyl', ordQ_lt, hz1, List.length_append]
          refine ⟨fun hc1 => ?_, fun hc1 => ?_⟩
          · unfold not1 at hK; rw [if_pos hc1] at hK
            exact ⟨by simp, hK⟩
          · unfold not1 at hK; rw [if_neg hc1] at hK
            exact hK
        | q :: L, hL, hLl, hK =>
          simp only [go_sem, ↓reduceIte, Nat.reduceEqDiff, Nat.reduceAdd, Nat.reduceLT, Nat.reduceLeDiff, Int.reduceToNat, Nat.reducePow, Nat.reduceMul, reduceCtorEq, hcm, ho, h1, hlt, hyw, hyl', ordQ_lt, hz1, List.length_append]
          simp only [List.length_cons] at hLl
          refine ⟨fun hc1 => ?_, fun hc1 => ?_⟩
          · unfold not1 at hK; rw [if_pos hc1] at hK
            have e2 : aC (acan q) :: (List.map aC (List.map acan L) ++ [[cb (rcan (rv y)), cn (rcan (rv y)), cd (rcan (rv y)), cb (rcan 1), cn (rcan 1), cd (rcan 1)]]) = ((q :: L ++ [(rv y, 1)]).map acan).map aC := by simp [aC, acan]
            rw [e2]
            simp only [go_sem, ↓reduceIte, Nat.reduceEqDiff, Nat.reduceAdd, Nat.reduceLT, Nat.reduceLeDiff, Int.reduceToNat, Nat.reducePow, Nat.reduceMul, reduceCtorEq]
            exact ⟨by simp, by omega, hK⟩
          · unfold not1 at hK; rw [if_neg hc1, List.append_nil] at hK
            have e2 : aC (acan q) :: List.map aC (List.map acan L) = ((q :: L).map acan).map aC := rfl
            rw [e2]
            simp only [go_sem, ↓reduceIte, Nat.reduceEqDiff, Nat.reduceAdd, Nat.reduceLT, Nat.reduceLeDiff, Int.reduceToNat, Nat.reducePow, Nat.reduceMul, reduceCtorEq]
            exact hK

theorem okB_a1 {h h' : Nat → HB} {z : Nat} {b : Bool} {x : Arc} : okB h h' (some ⟨[[cb x.1, cn x.1, cd x.1, cb x.2, cn x.2, cd x.2]], z, b⟩) (some ⟨[aC x], z, b⟩) := okB_a (l' := [x]) rfl


theorem cmeet_sound (hΓ : Holds P Γ) {f fx fn fc : Nat} (hx' : Γ fx = .dat false rmax_G) (hn : Γ fn = .dat false rmin_G) (hcm : Γ fc = .dat true rcmp_G) (hc : check P f = some (47, (ac_chart_meet fx fn fc).strip, [.tmp 4])) : Sound P f (.dat false cmeet_G) := by
  refine sound_dat hc cmeet_good hΓ (fun args K hcl hfi hG => ?_)
  match args, hG with
  | [a, b], hG =>
    obtain ⟨l, rfl, hwl, m, rfl, hwm, hlen, hlenm, hok, hokm, hK⟩ := hG
    refine ⟨by simp, ?_⟩
    simp only [go_sem, ↓reduceIte, Nat.reduceEqDiff, Nat.reduceAdd, Nat.reduceLT, Nat.reduceLeDiff, Int.reduceToNat, Nat.reducePow, Nat.reduceMul, reduceCtorEq, ac_chart_meet, hx', hn, hcm]
    intro _
    refine wpA_loop (fun p : Nat × List Q2 => match p.2 with
        | [] => ⟨mkV [(1, asA m), (5, .one .emp), (12, asA l), (13, .one (.lit (.int .i64 l.length))), (14, .one (.lit (.int .i64 p.1)))], mkH []⟩
        | q :: L => ⟨mkV [(1, asA m), (5, .one (.own 43 1 6 0 (q :: L).length)), (12, asA l), (13, .one (.lit (.int .i64 l.length))), (14, .one (.lit (.int .i64 p.1)))], mkH [(43, ⟨1, some ⟨((q :: L).map acan).map aC, 6, true⟩⟩)]⟩)
      (fun p => p.1 ≤ l.length ∧ p.2 = meetL (vals (l.take p.1)) (vals m)) (fun p => l.length - p.1) (0, []) ?_ ?_ ?_
    · exact weak_lit (by simp [okS, okV, okC, okL, okH, okB, okE, mkV_cons, mkV_nil, mkH_cons, mkH_nil, wsA, ws, asA, as]) trivial
    · exact ⟨Nat.zero_le _, rfl⟩
    · rintro ⟨i, L⟩ ⟨hi, hL⟩
      simp only at hi hL
      by_cases hlt : i < l.length
      · obtain ⟨x, hx⟩ : ∃ x, l.getD i a0 = x := ⟨_, rfl⟩
        have hx0 : l[i]? = some x := by rw [← hx, List.getD_eq_getElem?_getD, List.getElem?_eq_getElem hlt]; rfl
        have hox := hok x (List.mem_of_getElem? hx0)
        have hx1 : rl x.1 ≤ 1000000000 := Nat.le_trans (Nat.le_max_left _ _) hox.2
        have hx2 : rl x.2 ≤ 1000000000 := Nat.le_trans (Nat.le_max_right _ _) hox.2
        have hx1' : rl x.1 ≤ 4294967296 := by omega
        have hx2' : rl x.2 ≤ 4294967296 := by omega
        have hx3 := hox.1.1
        have hx4 := hox.1.2
        have rx1 := Nat.le_trans (rz_rv hx3) hx1
        have rx2 := Nat.le_trans (rz_rv hx4) hx2
        have hstepO : vals (l.take (i + 1)) = vals (l.take i) ++ [av x] := by rw [List.take_add_one, hx0]; simp [vals]
        have hLO : meetL (vals (l.take (i + 1))) (vals m) = L ++ (vals m).flatMap (meet1 (av x)) := by
          rw [hstepO, hL]; simp [meetL]
        have hLlen : L.length ≤ i * 1000 := by
          rw [hL]
          refine Nat.le_trans (meetL_len _ _) ?_
          simp only [vals, List.length_map, List.length_take]
          exact Nat.mul_le_mul (by omega) hlenm
        match L, hL, hLO, hLlen with
        | [], hL, hLO, hLlen =>
          simp only [go_sem, ↓reduceIte, Nat.reduceEqDiff, Nat.reduceAdd, Nat.reduceLT, Nat.reduceLeDiff, Int.reduceToNat, Nat.reducePow, Nat.reduceMul, reduceCtorEq, hx', hn, hcm, hlt, hx, aC_eq]
          intro _
          refine wpA_loop (fun p : Nat × List Q2 => match p.2 with
              | [] => ⟨mkV [(1, asA m), (5, .one .emp), (7, .one (.ptr 7 1 0 0)), (12, asA l), (13, .one (.lit (.int .i64 l.length))), (14, .one (.lit (.int .i64 i))), (18, asA m), (19, .one (.lit (.int .i64 m.length))), (20, .one (.lit (.int .i64 p.1)))], mkH [(7, ⟨1, some ⟨[aC x], 6, true⟩⟩)]⟩
              | q :: L => ⟨mkV [(1, asA m), (5, .one (.own 43 1 6 0 (q :: L).length)), (7, .one (.ptr 7 1 0 0)), (12, asA l), (13, .one (.lit (.int .i64 l.length))), (14, .one (.lit (.int .i64 i))), (18, asA m), (19, .one (.lit (.int .i64 m.length))), (20, .one (.lit (.int .i64 p.1)))], mkH [(7, ⟨1, some ⟨[aC x], 6, true⟩⟩), (43, ⟨1, some ⟨((q :: L).map acan).map aC, 6, true⟩⟩)]⟩)
            (fun p => p.1 ≤ m.length ∧ p.2 = meetL (vals (l.take i)) (vals m) ++ (vals (m.take p.1)).flatMap (meet1 (av x)) ∧ p.2.length ≤ i * 1000 + p.1) (fun p => m.length - p.1) (0, meetL (vals (l.take i)) (vals m)) ?_ ?_ ?_
          · rw [← hL]
            refine weak_lit (by simp [okS, okV, okC, okL, okH, okB, okE, mkV_cons, mkV_nil, mkH_cons, mkH_nil, wsA, ws, asA, as]) ?_
            first | exact ⟨okB_a1, trivial⟩ | exact ⟨okB_a1, okB_a (l' := (q0 :: L0).map acan) rfl, trivial⟩
          · exact ⟨Nat.zero_le _, by simp [vals], by rw [← hL]; exact hLlen⟩
          · rintro ⟨j, M⟩ ⟨hj, hM, hMl⟩
            simp only at hj hM hMl
            by_cases hltj : j < m.length
            · obtain ⟨y, hy⟩ : ∃ y, m.getD j a0 = y := ⟨_, rfl⟩
              have hy0 : m[j]? = some y := by rw [← hy, List.getD_eq_getElem?_getD, List.getElem?_eq_getElem hltj]; rfl
              have hoy := hokm y (List.mem_of_getElem? hy0)
              have hy1 : rl y.1 ≤ 1000000000 := Nat.le_trans (Nat.le_max_left _ _) hoy.2
              have hy2 : rl y.2 ≤ 1000000000 := Nat.le_trans (Nat.le_max_right _ _) hoy.2
              have hy1' : rl y.1 ≤ 4294967296 := by omega
              have hy2' : rl y.2 ≤ 4294967296 := by omega
              have hy3 := hoy.1.1
              have hy4 := hoy.1.2
              have rf : rz (if rv y.1 ≤ rv x.1 then rv x.1 else rv y.1) ≤ 4294967296 := Nat.le_trans (rz_mx rx1 (Nat.le_trans (rz_rv hy3) hy1)) (by decide)
              have rt : rz (if rv x.2 ≤ rv y.2 then rv x.2 else rv y.2) ≤ 4294967296 := Nat.le_trans (rz_mn rx2 (Nat.le_trans (rz_rv hy4) hy2)) (by decide)
              generalize hf : (if rv y.1 ≤ rv x.1 then rv x.1 else rv y.1) = fr at *
              generalize ht : (if rv x.2 ≤ rv y.2 then rv x.2 else rv y.2) = tt at *
              have hm1 : meet1 (av x) (av y) = not1 fr tt := by rw [← hf, ← ht]; rfl
              have hstep : (vals (m.take (j + 1))).flatMap (meet1 (av x)) = (vals (m.take j)).flatMap (meet1 (av x)) ++ not1 fr tt := by
                rw [List.take_add_one, hy0, ← hm1]; simp [vals]
              match M, hM, hMl with
              | [], hM, hMl =>
                simp only [go_sem, ↓reduceIte, Nat.reduceEqDiff, Nat.reduceAdd, Nat.reduceLT, Nat.reduceLeDiff, Int.reduceToNat, Nat.reducePow, Nat.reduceMul, reduceCtorEq, hx', hn, hcm, hltj, hy, aC_eq, hx1', hx2', hx3, hx4, hy1', hy2', hy3, hy4, hf, ht, rf, rt, ordQ_lt]
                refine ⟨fun hc1 => ⟨by simp, by omega, (j + 1, [(fr, tt)]), weak_lit (by simp [okS, okV, okC, okL, okH, okB, okE, mkV_cons, mkV_nil, mkH_cons, mkH_nil, wsA, ws, asA, as]) ?_, ⟨by (try simp only); omega, ?_, by (try simp only [List.length_cons, List.length_nil]); omega⟩, by (try simp only); omega⟩, fun hc1 => ⟨by omega, (j + 1, []), weak_lit (by simp [okS, okV, okC, okL, okH, okB, okE, mkV_cons, mkV_nil, mkH_cons, mkH_nil, wsA, ws, asA, as]) ⟨okB_a1, trivial⟩, ⟨by (try simp only); omega, ?_, by (try simp only [List.length_nil]); omega⟩, by (try simp only); omega⟩⟩
                · refine ⟨okB_a1, okB_a (l' := ([(fr, tt)] : List Q2).map acan) ?_, trivial⟩
                  simp [aC, acan]
                · rw [hstep, ← List.append_assoc, ← hM]; unfold not1; rw [if_pos hc1]; rfl
                · rw [hstep, ← List.append_assoc, ← hM]; unfold not1; rw [if_neg hc1]; rfl
              | q :: M, hM, hMl =>
                have hMl2 : M.length + 1 ≤ i * 1000 + j := by simpa using hMl
                simp only [go_sem, ↓reduceIte, Nat.reduceEqDiff, Nat.reduceAdd, Nat.reduceLT, Nat.reduceLeDiff, Int.reduceToNat, Nat.reducePow, Nat.reduceMul, reduceCtorEq, hx', hn, hcm, hltj, hy, aC_eq, hx1', hx2', hx3, hx4, hy1', hy2', hy3, hy4, hf, ht, rf, rt, ordQ_lt]
                refine ⟨fun hc1 => ⟨by simp, by omega, by omega, (j + 1, q :: (M ++ [(fr, tt)])), weak_lit (by simp [okS, okV, okC, okL, okH, okB, okE, mkV_cons, mkV_nil, mkH_cons, mkH_nil, wsA, ws, asA, as]) ?_, ⟨by (try simp only); omega, ?_, by (try simp only [List.length_cons, List.length_append, List.length_nil]); omega⟩, by (try simp only); omega⟩, fun hc1 => ⟨by omega, (j + 1, q :: M), weak_lit (by simp [okS, okV, okC, okL, okH, okB, okE, mkV_cons, mkV_nil, mkH_cons, mkH_nil, wsA, ws, asA, as]) ?_, ⟨by (try simp only); omega, ?_, by (try simp only [List.length_cons]); omega⟩, by (try simp only); omega⟩⟩
                · refine ⟨okB_a1, okB_a (l' := (q :: (M ++ [(fr, tt)]) : List Q2).map acan) ?_, trivial⟩
                  simp [aC, acan]
                · rw [hstep, ← List.append_assoc, ← hM]; unfold not1; rw [if_pos hc1]; rfl
                · exact ⟨okB_a1, okB_a (l' := (q :: M).map acan) rfl, trivial⟩
                · rw [hstep, ← List.append_assoc, ← hM]; unfold not1; rw [if_neg hc1]; simp
            · have hMM : M = meetL (vals (l.take (i + 1))) (vals m) := by
                rw [hM, hLO, ← hL, List.take_of_length_le (by omega)]
              match M, hM, hMM with
              | [], hM, hMM =>
                simp only [go_sem, ↓reduceIte, Nat.reduceEqDiff, Nat.reduceAdd, Nat.reduceLT, Nat.reduceLeDiff, Int.reduceToNat, Nat.reducePow, Nat.reduceMul, reduceCtorEq, hx', hn, hcm, hltj]
                exact ⟨by omega, (i + 1, []), weak_lit (by simp [okS, okV, okC, okL, okH, okB, okE, mkV_cons, mkV_nil, mkH_cons, mkH_nil, wsA, ws, asA, as]) trivial, ⟨by (try simp only); omega, hMM⟩, by (try simp only); omega⟩
              | q :: M, hM, hMM =>
                simp only [go_sem, ↓reduceIte, Nat.reduceEqDiff, Nat.reduceAdd, Nat.reduceLT, Nat.reduceLeDiff, Int.reduceToNat, Nat.reducePow, Nat.reduceMul, reduceCtorEq, hx', hn, hcm, hltj]
                exact ⟨by omega, (i + 1, q :: M), weak_lit (by simp [okS, okV, okC, okL, okH, okB, okE, mkV_cons, mkV_nil, mkH_cons, mkH_nil, wsA, ws, asA, as]) ⟨okB_a (l' := (q :: M).map acan) rfl, trivial⟩, ⟨by (try simp only); omega, hMM⟩, by (try simp only); omega⟩
        | q0 :: L0, hL, hLO, hLlen =>
          simp only [go_sem, ↓reduceIte, Nat.reduceEqDiff, Nat.reduceAdd, Nat.reduceLT, Nat.reduceLeDiff, Int.reduceToNat, Nat.reducePow, Nat.reduceMul, reduceCtorEq, hx', hn, hcm, hlt, hx, aC_eq]
          intro _
          refine wpA_loop (fun p : Nat × List Q2 => match p.2 with
              | [] => ⟨mkV [(1, asA m), (5, .one .emp), (7, .one (.ptr 7 1 0 0)), (12, asA l), (13, .one (.lit (.int .i64 l.length))), (14, .one (.lit (.int .i64 i))), (18, asA m), (19, .one (.lit (.int .i64 m.length))), (20, .one (.lit (.int .i64 p.1)))], mkH [(7, ⟨1, some ⟨[aC x], 6, true⟩⟩)]⟩
              | q :: L => ⟨mkV [(1, asA m), (5, .one (.own 43 1 6 0 (q :: L).length)), (7, .one (.ptr 7 1 0 0)), (12, asA l), (13, .one (.lit (.int .i64 l.length))), (14, .one (.lit (.int .i64 i))), (18, asA m), (19, .one (.lit (.int .i64 m.length))), (20, .one (.lit (.int .i64 p.1)))], mkH [(7, ⟨1, some ⟨[aC x], 6, true⟩⟩), (43, ⟨1, some ⟨((q :: L).map acan).map aC, 6, true⟩⟩)]⟩)
            (fun p => p.1 ≤ m.length ∧ p.2 = meetL (vals (l.take i)) (vals m) ++ (vals (m.take p.1)).flatMap (meet1 (av x)) ∧ p.2.length ≤ i * 1000 + p.1) (fun p => m.length - p.1) (0, meetL (vals (l.take i)) (vals m)) ?_ ?_ ?_
          · rw [← hL]
            refine weak_lit (by simp [okS, okV, okC, okL, okH, okB, okE, mkV_cons, mkV_nil, mkH_cons, mkH_nil, wsA, ws, asA, as]) ?_
            first | exact ⟨okB_a1, trivial⟩ | exact ⟨okB_a1, okB_a (l' := (q0 :: L0).map acan) rfl, trivial⟩
          · exact ⟨Nat.zero_le _, by simp [vals], by rw [← hL]; exact hLlen⟩
          · rintro ⟨j, M⟩ ⟨hj, hM, hMl⟩
            simp only at hj hM hMl
            by_cases hltj : j < m.length
            · obtain ⟨y, hy⟩ : ∃ y, m.getD j a0 = y := ⟨_, rfl⟩
              have hy0 : m[j]? = some y := by rw [← hy, List.getD_eq_getElem?_getD, List.getElem?_eq_getElem hltj]; rfl
              have hoy := hokm y (List.mem_of_getElem? hy0)
              have hy1 : rl y.1 ≤ 1000000000 := Nat.le_trans (Nat.le_max_left _ _) hoy.2
              have hy2 : rl y.2 ≤ 1000000000 := Nat.le_trans (Nat.le_max_right _ _) hoy.2
              have hy1' : rl y.1 ≤ 4294967296 := by omega
              have hy2' : rl y.2 ≤ 4294967296 := by omega
              have hy3 := hoy.1.1
              have hy4 := hoy.1.2
              have rf : rz (if rv y.1 ≤ rv x.1 then rv x.1 else rv y.1) ≤ 4294967296 := Nat.le_trans (rz_mx rx1 (Nat.le_trans (rz_rv hy3) hy1)) (by decide)
              have rt : rz (if rv x.2 ≤ rv y.2 then rv x.2 else rv y.2) ≤ 4294967296 := Nat.le_trans (rz_mn rx2 (Nat.le_trans (rz_rv hy4) hy2)) (by decide)
              generalize hf : (if rv y.1 ≤ rv x.1 then rv x.1 else rv y.1) = fr at *
              generalize ht : (if rv x.2 ≤ rv y.2 then rv x.2 else rv y.2) = tt at *
              have hm1 : meet1 (av x) (av y) = not1 fr tt := by rw [← hf, ← ht]; rfl
              have hstep : (vals (m.take (j + 1))).flatMap (meet1 (av x)) = (vals (m.take j)).flatMap (meet1 (av x)) ++ not1 fr tt := by
                rw [List.take_add_one, hy0, ← hm1]; simp [vals]
              match M, hM, hMl with
              | [], hM, hMl =>
                simp only [go_sem, ↓reduceIte, Nat.reduceEqDiff, Nat.reduceAdd, Nat.reduceLT, Nat.reduceLeDiff, Int.reduceToNat, Nat.reducePow, Nat.reduceMul, reduceCtorEq, hx', hn, hcm, hltj, hy, aC_eq, hx1', hx2', hx3, hx4, hy1', hy2', hy3, hy4, hf, ht, rf, rt, ordQ_lt]
                refine ⟨fun hc1 => ⟨by simp, by omega, (j + 1, [(fr, tt)]), weak_lit (by simp [okS, okV, okC, okL, okH, okB, okE, mkV_cons, mkV_nil, mkH_cons, mkH_nil, wsA, ws, asA, as]) ?_, ⟨by (try simp only); omega, ?_, by (try simp only [List.length_cons, List.length_nil]); omega⟩, by (try simp only); omega⟩, fun hc1 => ⟨by omega, (j + 1, []), weak_lit (by simp [okS, okV, okC, okL, okH, okB, okE, mkV_cons, mkV_nil, mkH_cons, mkH_nil, wsA, ws, asA, as]) ⟨okB_a1, trivial⟩, ⟨by (try simp only); omega, ?_, by (try simp only [List.length_nil]); omega⟩, by (try simp only); omega⟩⟩
                · refine ⟨okB_a1, okB_a (l' := ([(fr, tt)] : List Q2).map acan) ?_, trivial⟩
                  simp [aC, acan]
                · rw [hstep, ← List.append_assoc, ← hM]; unfold not1; rw [if_pos hc1]; rfl
                · rw [hstep, ← List.append_assoc, ← hM]; unfold not1; rw [if_neg hc1]; rfl
              | q :: M, hM, hMl =>
                have hMl2 : M.length + 1 ≤ i * 1000 + j := by simpa using hMl
                simp only [go_sem, ↓reduceIte, Nat.reduceEqDiff, Nat.reduceAdd, Nat.reduceLT, Nat.reduceLeDiff, Int.reduceToNat, Nat.reducePow, Nat.reduceMul, reduceCtorEq, hx', hn, hcm, hltj, hy, aC_eq, hx1', hx2', hx3, hx4, hy1', hy2', hy3, hy4, hf, ht, rf, rt, ordQ_lt]
                refine ⟨fun hc1 => ⟨by simp, by omega, by omega, (j + 1, q :: (M ++ [(fr, tt)])), weak_lit (by simp [okS, okV, okC, okL, okH, okB, okE, mkV_cons, mkV_nil, mkH_cons, mkH_nil, wsA, ws, asA, as]) ?_, ⟨by (try simp only); omega, ?_, by (try simp only [List.length_cons, List.length_append, List.length_nil]); omega⟩, by (try simp only); omega⟩, fun hc1 => ⟨by omega, (j + 1, q :: M), weak_lit (by simp [okS, okV, okC, okL, okH, okB, okE, mkV_cons, mkV_nil, mkH_cons, mkH_nil, wsA, ws, asA, as]) ?_, ⟨by (try simp only); omega, ?_, by (try simp only [List.length_cons]); omega⟩, by (try simp only); omega⟩⟩
                · refine ⟨okB_a1, okB_a (l' := (q :: (M ++ [(fr, tt)]) : List Q2).map acan) ?_, trivial⟩
                  simp [aC, acan]
                · rw [hstep, ← List.append_assoc, ← hM]; unfold not1; rw [if_pos hc1]; rfl
                · exact ⟨okB_a1, okB_a (l' := (q :: M).map acan) rfl, trivial⟩
                · rw [hstep, ← List.append_assoc, ← hM]; unfold not1; rw [if_neg hc1]; simp
            · have hMM : M = meetL (vals (l.take (i + 1))) (vals m) := by
                rw [hM, hLO, ← hL, List.take_of_length_le (by omega)]
              match M, hM, hMM with
              | [], hM, hMM =>
                simp only [go_sem, ↓reduceIte, Nat.reduceEqDiff, Nat.reduceAdd, Nat.reduceLT, Nat.reduceLeDiff, Int.reduceToNat, Nat.reducePow, Nat.reduceMul, reduceCtorEq, hx', hn, hcm, hltj]
                exact ⟨by omega, (i + 1, []), weak_lit (by simp [okS, okV, okC, okL, okH, okB, okE, mkV_cons, mkV_nil, mkH_cons, mkH_nil, wsA, ws, asA, as]) trivial, ⟨by (try simp only); omega, hMM⟩, by (try simp only); omega⟩
              | q :: M, hM, hMM =>
                simp only [go_sem, ↓reduceIte, Nat.reduceEqDiff, Nat.reduceAdd, Nat.reduceLT, Nat.reduceLeDiff, Int.reduceToNat, Nat.reducePow, Nat.reduceMul, reduceCtorEq, hx', hn, hcm, hltj]
                exact ⟨by omega, (i + 1, q :: M), weak_lit (by simp [okS, okV, okC, okL, okH, okB, okE, mkV_cons, mkV_nil, mkH_cons, mkH_nil, wsA, ws, asA, as]) ⟨okB_a (l' := (q :: M).map acan) rfl, trivial⟩, ⟨by (try simp only); omega, hMM⟩, by (try simp only); omega⟩
      · rw [List.take_of_length_le (by omega)] at hL
        rw [← hL] at hK
        match L, hL, hK with
        | [], hL, hK =>
          simp only [go_sem, ↓reduceIte, Nat.reduceEqDiff, Nat.reduceAdd, Nat.reduceLT, Nat.reduceLeDiff, Int.reduceToNat, Nat.reducePow, Nat.reduceMul, reduceCtorEq, hx', hn, hcm, hlt]
          exact hK
        | q :: L, hL, hK =>
          simp only [go_sem, ↓reduceIte, Nat.reduceEqDiff, Nat.reduceAdd, Nat.reduceLT, Nat.reduceLeDiff, Int.reduceToNat, Nat.reducePow, Nat.reduceMul, reduceCtorEq, hx', hn, hcm, hlt, List.length_append]
          have e2 : aC (acan q) :: List.map aC (List.map acan L) = ((q :: L).map acan).map aC := rfl
          rw [e2]
          simp only [go_sem, ↓reduceIte, Nat.reduceEqDiff, Nat.reduceAdd, Nat.reduceLT, Nat.reduceLeDiff, Int.reduceToNat, Nat.reducePow, Nat.reduceMul, reduceCtorEq]
          exact hK

end Go.Abs
end

/-
  The chart's functions keep their contracts: Union, Meet, Not.
-/
section
set_option linter.unusedVariables false
set_option linter.unusedSimpArgs false
set_option maxRecDepth 100000
namespace Go.Num
/-- A chart, or nothing and the error's number. -/
def res (c : Nat) (L : List Q2) : List Q2 := if c = 0 then lim64 L else []
def cod (c : Nat) (L : List Q2) : Nat := if c = 0 then code64 L else c

theorem chk_2 {l k : List Arc} (h : chk [l, k] = 0) : chk [l] = 0 ∧ chk [k] = 0 := by
  unfold chk at h
  split at h
  · contradiction
  · rename_i h1
    exact ⟨by rw [chk_1]; simpa using h1, h⟩
theorem chk_20 {l k : List Arc} (h : chk [l] = 0) (h' : chk [k] = 0) : chk [l, k] = 0 := by
  rw [chk_1] at h
  unfold chk
  rw [if_neg (by simp [h])]; exact h'
theorem vals_append (l k : List Arc) : vals (l ++ k) = vals l ++ vals k := by simp [vals]
theorem posA_append {l k : List Arc} (h : PosA l) (h' : PosA k) : PosA (l ++ k) := fun x hx => (List.mem_append.1 hx).elim (h x) (h' x)
theorem pos_of_posA {l : List Arc} (h : PosA l) : Pos (vals l) := fun a ha => by
  obtain ⟨x, hx, rfl⟩ := List.mem_map.1 ha; exact h x hx
end Go.Num

namespace Go.Abs
open Go.Num

variable {P : Program} {Γ : Nat → Spec}

-- theorem g_onAs
def cUnion_G (tE m : Nat) (l : List AV) (K : AV → Prop) : Prop :=
  match l with
  | [a, b] => onAs (fun l => onAs (fun k => (chk [l, k] = 0 → l.length + k.length ≤ m) ∧ okAs 10000000 l ∧ okAs 10000000 k ∧ K (.tup [.one (.slice (((res (chk [l, k]) (nrm (vals l ++ vals k))).map acan).map aC)), errV tE (cod (chk [l, k]) (nrm (vals l ++ vals k)))])) b) a
  | _ => False
theorem cUnion_Ge (tE m : Nat) (a b : AV) (K : AV → Prop) : cUnion_G tE m [a, b] K = (onAs (fun l => onAs (fun k => (chk [l, k] = 0 → l.length + k.length ≤ m) ∧ okAs 10000000 l ∧ okAs 10000000 k ∧ K (.tup [.one (.slice (((res (chk [l, k]) (nrm (vals l ++ vals k))).map acan).map aC)), errV tE (cod (chk [l, k]) (nrm (vals l ++ vals k)))])) b) a) := propext Iff.rfl
@[congr] theorem cUnion_Gc (tE m : Nat) {K : AV → Prop} {l l' : List AV} (h : l = l') : cUnion_G tE m l K = cUnion_G tE m l' K := by subst h; rfl
attribute [go_sem] cUnion_Ge
attribute [go_sem ↓] cUnion_Ge
theorem cUnion_good (tE m : Nat) : Good (cUnion_G tE m) := good_of fun as => by
  unfold cUnion_G
  split
  · repeat (first | exact .ret _ | exact .of (fun K hk => hk.elim) | (refine .and fun _ => ?_) | (refine g_onWs fun _ => ?_) | (refine g_onAs fun _ => ?_) | (refine g_asInt (fun _ _ => ?_) _) | (refine g_asBool (fun _ => ?_) _) | (refine g_onE ?_ ?_) | (intro _) | assumption)
  · exact .of fun K hk => hk.elim

def cMeet_G (tE m : Nat) (l : List AV) (K : AV → Prop) : Prop :=
  match l with
  | [a, b] => onAs (fun l => onAs (fun k => (chk [l, k] = 0 → l.length ≤ m ∧ k.length ≤ m) ∧ okAs 10000000 l ∧ okAs 10000000 k ∧ K (.tup [.one (.slice (((res (chk [l, k]) (meetL (nrm (vals l)) (nrm (vals k)))).map acan).map aC)), errV tE (cod (chk [l, k]) (meetL (nrm (vals l)) (nrm (vals k))))])) b) a
  | _ => False
theorem cMeet_Ge (tE m : Nat) (a b : AV) (K : AV → Prop) : cMeet_G tE m [a, b] K = (onAs (fun l => onAs (fun k => (chk [l, k] = 0 → l.length ≤ m ∧ k.length ≤ m) ∧ okAs 10000000 l ∧ okAs 10000000 k ∧ K (.tup [.one (.slice (((res (chk [l, k]) (meetL (nrm (vals l)) (nrm (vals k)))).map acan).map aC)), errV tE (cod (chk [l, k]) (meetL (nrm (vals l)) (nrm (vals k))))])) b) a) := propext Iff.rfl
@[congr] theorem cMeet_Gc (tE m : Nat) {K : AV → Prop} {l l' : List AV} (h : l = l') : cMeet_G tE m l K = cMeet_G tE m l' K := by subst h; rfl
attribute [go_sem] cMeet_Ge
attribute [go_sem ↓] cMeet_Ge
theorem cMeet_good (tE m : Nat) : Good (cMeet_G tE m) := good_of fun as => by
  unfold cMeet_G
  split
  · repeat (first | exact .ret _ | exact .of (fun K hk => hk.elim) | (refine .and fun _ => ?_) | (refine g_onWs fun _ => ?_) | (refine g_onAs fun _ => ?_) | (refine g_asInt (fun _ _ => ?_) _) | (refine g_asBool (fun _ => ?_) _) | (refine g_onE ?_ ?_) | (intro _) | assumption)
  · exact .of fun K hk => hk.elim

def cNot_G (tE m : Nat) (l : List AV) (K : AV → Prop) : Prop :=
  match l with
  | [a] => onAs (fun l => (chk [l] = 0 → l.length ≤ m) ∧ okAs 10000000 l ∧ K (.tup [.one (.slice (((res (chk [l]) (notL (nrm (vals l)))).map acan).map aC)), errV tE (cod (chk [l]) (notL (nrm (vals l))))])) a
  | _ => False
theorem cNot_Ge (tE m : Nat) (a : AV) (K : AV → Prop) : cNot_G tE m [a] K = (onAs (fun l => (chk [l] = 0 → l.length ≤ m) ∧ okAs 10000000 l ∧ K (.tup [.one (.slice (((res (chk [l]) (notL (nrm (vals l)))).map acan).map aC)), errV tE (cod (chk [l]) (notL (nrm (vals l))))])) a) := propext Iff.rfl
@[congr] theorem cNot_Gc (tE m : Nat) {K : AV → Prop} {l l' : List AV} (h : l = l') : cNot_G tE m l K = cNot_G tE m l' K := by subst h; rfl
attribute [go_sem] cNot_Ge
attribute [go_sem ↓] cNot_Ge
theorem cNot_good (tE m : Nat) : Good (cNot_G tE m) := good_of fun as => by
  unfold cNot_G
  split
  · repeat (first | exact .ret _ | exact .of (fun K hk => hk.elim) | (refine .and fun _ => ?_) | (refine g_onWs fun _ => ?_) | (refine g_onAs fun _ => ?_) | (refine g_asInt (fun _ _ => ?_) _) | (refine g_asBool (fun _ => ?_) _) | (refine g_onE ?_ ?_) | (intro _) | assumption)
  · exact .of fun K hk => hk.elim


/-- linkwork/chart.Union (22) [.tmp 4, .tmp 5] -/
def ac_chart_Union (f_chart_check f_slices_Clone_g f_chart_norm f_chart_limited : Nat) : AC := (.seq (.ops false [⟨some 4, none, .mv (.c (.one .emp))⟩, ⟨some 5, none, .mv (.c (.one (.lit .nilIface)))⟩])
 (.fg [0, 1] (.seq (.seq (.ops false [⟨some 7, none, .mv (.t 0)⟩, ⟨some 8, none, .mv (.t 1)⟩, ⟨some 9, none, .row 1 [[.x 1 (.t 7)], [.x 1 (.t 8)]]⟩, ⟨some 10, none, .call f_chart_check [(.t 9)]⟩, ⟨some 6, none, .mv (.t 10)⟩])
 (.fg [0, 1, 6] (.seq (.ops false [⟨some 11, none, .mv (.t 6)⟩, ⟨some 12, none, .binn .neq (.t 11) (.c (.one (.lit .nilIface)))⟩])
 (.fg [0, 1, 6, 12] (.cond (.t 12) (.seq (.ops false [⟨some 13, none, .mv (.t 6)⟩, ⟨some 4, none, .mv (.c (.one .emp))⟩, ⟨some 5, none, .mv (.t 13)⟩])
 .ret) .skip)))))
 (.fg [0, 1] (.seq (.ops false [⟨some 14, none, .mv (.t 0)⟩, ⟨some 15, none, .callf f_slices_Clone_g [(.t 14)]⟩, ⟨some 16, none, .mv (.t 1)⟩, ⟨some 17, none, .app 6 (.t 15) (.t 16)⟩, ⟨some 18, none, .call f_chart_norm [(.t 17)]⟩, ⟨some 19, none, .call f_chart_limited [(.t 18)]⟩, ⟨some 20, none, .ext 0 (.t 19)⟩, ⟨some 21, none, .ext 1 (.t 19)⟩, ⟨some 4, none, .mv (.t 20)⟩, ⟨some 5, none, .mv (.t 21)⟩])
 .ret)))))

/-- linkwork/chart.Meet (22) [.tmp 4, .tmp 5] -/
def ac_chart_Meet (f_chart_check f_chart_norm f_chart_meet f_chart_limited : Nat) : AC := (.seq (.ops false [⟨some 4, none, .mv (.c (.one .emp))⟩, ⟨some 5, none, .mv (.c (.one (.lit .nilIface)))⟩])
 (.fg [0, 1] (.seq (.seq (.ops false [⟨some 7, none, .mv (.t 0)⟩, ⟨some 8, none, .mv (.t 1)⟩, ⟨some 9, none, .row 1 [[.x 1 (.t 7)], [.x 1 (.t 8)]]⟩, ⟨some 10, none, .call f_chart_check [(.t 9)]⟩, ⟨some 6, none, .mv (.t 10)⟩])
 (.fg [0, 1, 6] (.seq (.ops false [⟨some 11, none, .mv (.t 6)⟩, ⟨some 12, none, .binn .neq (.t 11) (.c (.one (.lit .nilIface)))⟩])
 (.fg [0, 1, 6, 12] (.cond (.t 12) (.seq (.ops false [⟨some 13, none, .mv (.t 6)⟩, ⟨some 4, none, .mv (.c (.one .emp))⟩, ⟨some 5, none, .mv (.t 13)⟩])
 .ret) .skip)))))
 (.fg [0, 1] (.seq (.ops false [⟨some 14, none, .mv (.t 0)⟩, ⟨some 15, none, .call f_chart_norm [(.t 14)]⟩, ⟨some 16, none, .mv (.t 1)⟩, ⟨some 17, none, .call f_chart_norm [(.t 16)]⟩, ⟨some 18, none, .call f_chart_meet [(.t 15), (.t 17)]⟩, ⟨some 19, none, .call f_chart_limited [(.t 18)]⟩, ⟨some 20, none, .ext 0 (.t 19)⟩, ⟨some 21, none, .ext 1 (.t 19)⟩, ⟨some 4, none, .mv (.t 20)⟩, ⟨some 5, none, .mv (.t 21)⟩])
 .ret)))))

/-- linkwork/chart.Not (17) [.tmp 2, .tmp 3] -/
def ac_chart_Not (f_chart_check f_chart_norm f_chart_not f_chart_limited : Nat) : AC := (.seq (.ops false [⟨some 2, none, .mv (.c (.one .emp))⟩, ⟨some 3, none, .mv (.c (.one (.lit .nilIface)))⟩])
 (.fg [0] (.seq (.seq (.ops false [⟨some 5, none, .mv (.t 0)⟩, ⟨some 6, none, .row 1 [[.x 1 (.t 5)]]⟩, ⟨some 7, none, .call f_chart_check [(.t 6)]⟩, ⟨some 4, none, .mv (.t 7)⟩])
 (.fg [0, 4] (.seq (.ops false [⟨some 8, none, .mv (.t 4)⟩, ⟨some 9, none, .binn .neq (.t 8) (.c (.one (.lit .nilIface)))⟩])
 (.fg [0, 4, 9] (.cond (.t 9) (.seq (.ops false [⟨some 10, none, .mv (.t 4)⟩, ⟨some 2, none, .mv (.c (.one .emp))⟩, ⟨some 3, none, .mv (.t 10)⟩])
 .ret) .skip)))))
 (.fg [0] (.seq (.ops false [⟨some 11, none, .mv (.t 0)⟩, ⟨some 12, none, .call f_chart_norm [(.t 11)]⟩, ⟨some 13, none, .call f_chart_not [(.t 12)]⟩, ⟨some 14, none, .call f_chart_limited [(.t 13)]⟩, ⟨some 15, none, .ext 0 (.t 14)⟩, ⟨some 16, none, .ext 1 (.t 14)⟩, ⟨some 2, none, .mv (.t 15)⟩, ⟨some 3, none, .mv (.t 16)⟩])
 .ret)))))


theorem dat_errV (h : Nat → HB) (tE c : Nat) : datA h (errV tE c) = errV tE c := eq_of_heq (HEq.refl _)
attribute [go_sem] dat_errV
theorem lim_fin {tE : Nat} {L : List Q2} {K : AV → Prop} (h : K (.tup [.one (.slice (((res 0 L).map acan).map aC)), errV tE (cod 0 L)])) : K (.tup [.one (.slice ((if 64 < (L.map acan).length then [] else L.map acan).map aC)), errV tE (if 64 < (L.map acan).length then 4 else 0)]) := by
  unfold res cod lim64 code64 at h
  rw [if_pos rfl, if_pos rfl] at h
  rw [List.length_map]
  split
  · rename_i h1; rw [if_pos h1, if_pos h1] at h; exact h
  · rename_i h1; rw [if_neg h1, if_neg h1] at h; exact h

theorem cUnion_sound (hΓ : Holds P Γ) {f fk fl fn fm tE m : Nat} (hm : m ≤ 1000) (hk : Γ fk = .dat false (ccheck_G tE)) (hl : Γ fl = .fresh 6 clone_G) (hn : Γ fn = .dat false (cnorm_G m)) (hli : Γ fm = .dat false (climit_G tE)) (hc : check P f = some (22, (ac_chart_Union fk fl fn fm).strip, [.tmp 4, .tmp 5])) : Sound P f (.dat false (cUnion_G tE m)) := by
  refine sound_dat hc (cUnion_good tE m) hΓ (fun args K hcl hfi hG => ?_)
  match args, hG with
  | [a, b], hG =>
    obtain ⟨l, rfl, hwl, k, rfl, hwk, hlm, hok, hokk, hK⟩ := hG
    refine ⟨by simp, ?_⟩
    have o1 : okAs 4294967296 l := okAs_mono hok (by decide)
    have o2 : okAs 4294967296 k := okAs_mono hokk (by decide)
    have oo : ∀ z ∈ [l, k], okAs 4294967296 z := by
      intro z hz
      simp only [List.mem_cons, List.not_mem_nil, or_false] at hz
      rcases hz with rfl | rfl <;> assumption
    by_cases h0 : chk [l, k] = 0
    · obtain ⟨h1, h2⟩ := chk_2 h0
      have hlm' := hlm h0
      rw [h0] at hK
      have hfin := lim_fin hK
      rw [← vals_append, List.length_map] at hfin
      simp only [go_sem, ↓reduceIte, Nat.reduceEqDiff, Nat.reduceAdd, Nat.reduceLT, Nat.reduceLeDiff, Int.reduceToNat, Nat.reducePow, Nat.reduceMul, reduceCtorEq, ac_chart_Union, hk, hl, hn, hli, h0, errV_0, List.length_append]
      exact ⟨⟨hwl, hwk⟩, oo, hwl, by omega, by omega, (fun z hz => (List.mem_append.1 hz).elim (hwl z) (hwk z)), by omega, okAs_append.2 ⟨o1, o2⟩, posA_append (chk_pos h1) (chk_pos h2), WLA_cans _, hfin⟩
    · simp only [res, cod, h0, if_false, errV_s tE h0, List.map_nil] at hK
      simp only [go_sem, ↓reduceIte, Nat.reduceEqDiff, Nat.reduceAdd, Nat.reduceLT, Nat.reduceLeDiff, Int.reduceToNat, Nat.reducePow, Nat.reduceMul, reduceCtorEq, ac_chart_Union, hk, hl, hn, hli, h0, errV_s tE h0]
      exact ⟨⟨hwl, hwk⟩, oo, hK⟩

theorem cMeet_sound (hΓ : Holds P Γ) {f fk fn fe fm tE m : Nat} (hm : m ≤ 1000) (hk : Γ fk = .dat false (ccheck_G tE)) (hn : Γ fn = .dat false (cnorm_G m)) (he : Γ fe = .dat false cmeet_G) (hli : Γ fm = .dat false (climit_G tE)) (hc : check P f = some (22, (ac_chart_Meet fk fn fe fm).strip, [.tmp 4, .tmp 5])) : Sound P f (.dat false (cMeet_G tE m)) := by
  refine sound_dat hc (cMeet_good tE m) hΓ (fun args K hcl hfi hG => ?_)
  match args, hG with
  | [a, b], hG =>
    obtain ⟨l, rfl, hwl, k, rfl, hwk, hlm, hok, hokk, hK⟩ := hG
    refine ⟨by simp, ?_⟩
    have o1 : okAs 4294967296 l := okAs_mono hok (by decide)
    have o2 : okAs 4294967296 k := okAs_mono hokk (by decide)
    have oo : ∀ z ∈ [l, k], okAs 4294967296 z := by
      intro z hz
      simp only [List.mem_cons, List.not_mem_nil, or_false] at hz
      rcases hz with rfl | rfl <;> assumption
    by_cases h0 : chk [l, k] = 0
    · obtain ⟨h1, h2⟩ := chk_2 h0
      obtain ⟨hlm1, hlm2⟩ := hlm h0
      rw [h0] at hK
      have hfin := lim_fin hK
      rw [List.length_map] at hfin
      have n1 := nrm_len (vals l)
      have n2 := nrm_len (vals k)
      simp only [vals, List.length_map] at n1 n2
      simp only [go_sem, ↓reduceIte, Nat.reduceEqDiff, Nat.reduceAdd, Nat.reduceLT, Nat.reduceLeDiff, Int.reduceToNat, Nat.reducePow, Nat.reduceMul, reduceCtorEq, ac_chart_Meet, hk, hn, he, hli, h0, errV_0, vals_can]
      exact ⟨⟨hwl, hwk⟩, oo, hwl, hlm1, o1, chk_pos h1, hwk, hlm2, o2, chk_pos h2, WLA_cans _, WLA_cans _, by simp only [vals]; omega, by simp only [vals]; omega, okAs_mono (okAs_nrm hok) (by decide), okAs_mono (okAs_nrm hokk) (by decide), WLA_cans _, hfin⟩
    · simp only [res, cod, h0, if_false, errV_s tE h0, List.map_nil] at hK
      simp only [go_sem, ↓reduceIte, Nat.reduceEqDiff, Nat.reduceAdd, Nat.reduceLT, Nat.reduceLeDiff, Int.reduceToNat, Nat.reducePow, Nat.reduceMul, reduceCtorEq, ac_chart_Meet, hk, hn, he, hli, h0, errV_s tE h0]
      exact ⟨⟨hwl, hwk⟩, oo, hK⟩

theorem cNot_sound (hΓ : Holds P Γ) {f fk fn fe fm tE m : Nat} (hm : m ≤ 1000) (hk : Γ fk = .dat false (ccheck_G tE)) (hn : Γ fn = .dat false (cnorm_G m)) (he : Γ fe = .dat false cnot_G) (hli : Γ fm = .dat false (climit_G tE)) (hc : check P f = some (17, (ac_chart_Not fk fn fe fm).strip, [.tmp 2, .tmp 3])) : Sound P f (.dat false (cNot_G tE m)) := by
  refine sound_dat hc (cNot_good tE m) hΓ (fun args K hcl hfi hG => ?_)
  match args, hG with
  | [a], hG =>
    obtain ⟨l, rfl, hwl, hlm, hok, hK⟩ := hG
    refine ⟨by simp, ?_⟩
    have o1 : okAs 4294967296 l := okAs_mono hok (by decide)
    have oo : ∀ z ∈ [l], okAs 4294967296 z := by
      intro z hz
      rw [List.mem_singleton] at hz; subst hz; exact o1
    by_cases h0 : chk [l] = 0
    · have hlm' := hlm h0
      rw [h0] at hK
      have hfin := lim_fin hK
      rw [List.length_map] at hfin
      have n1 := nrm_len (vals l)
      simp only [vals, List.length_map] at n1
      simp only [go_sem, ↓reduceIte, Nat.reduceEqDiff, Nat.reduceAdd, Nat.reduceLT, Nat.reduceLeDiff, Int.reduceToNat, Nat.reducePow, Nat.reduceMul, reduceCtorEq, ac_chart_Not, hk, hn, he, hli, h0, errV_0, vals_can]
      exact ⟨hwl, oo, hwl, hlm', o1, chk_pos h0, WLA_cans _, by simp only [vals]; omega, okAs_mono (okAs_nrm hok) (by decide), WLA_cans _, hfin⟩
    · simp only [res, cod, h0, if_false, errV_s tE h0, List.map_nil] at hK
      simp only [go_sem, ↓reduceIte, Nat.reduceEqDiff, Nat.reduceAdd, Nat.reduceLT, Nat.reduceLeDiff, Int.reduceToNat, Nat.reducePow, Nat.reduceMul, reduceCtorEq, ac_chart_Not, hk, hn, he, hli, h0, errV_s tE h0]
      exact ⟨hwl, oo, hK⟩

end Go.Abs
end

/-
  Charts, plainly: what is in neither, what is in both.
-/
section
set_option linter.unusedVariables false
namespace Go.Num

theorem mem_not1 {x f t : Rat} : memL x (not1 f t) ↔ f ≤ x ∧ x < t := by
  unfold not1
  split
  · simp [memL_cons, memL_nil, mem]
  · rename_i h
    constructor
    · intro h'; exact absurd h' (memL_nil x)
    · rintro ⟨h1, h2⟩; exact absurd (lt_of_le_of_lt h1 h2) h
theorem pos_not1 (f t : Rat) : Pos (not1 f t) := by
  intro q hq
  unfold not1 at hq
  split at hq
  · rw [List.mem_singleton] at hq; subst hq; assumption
  · simp at hq
theorem in_not1 {f t : Rat} {q : Q2} (hq : q ∈ not1 f t) : q.1 = f ∧ q.2 = t := by
  unfold not1 at hq
  split at hq
  · rw [List.mem_singleton] at hq; subst hq; exact ⟨rfl, rfl⟩
  · simp at hq

theorem notGo_ok : ∀ (l : List Q2) (f : Rat), f ≤ 1 → Pos l → Apart l → (∀ a ∈ l, f ≤ a.1) → (∀ a ∈ l, a.2 ≤ 1) →
    (∀ x, memL x (notGo f l) ↔ f ≤ x ∧ x < 1 ∧ ¬ memL x l) ∧ Pos (notGo f l) ∧ Apart (notGo f l) ∧ ∀ q ∈ notGo f l, f ≤ q.1 ∧ q.2 ≤ 1
  | [], f, hf, _, _, _, _ => by
    refine ⟨fun x => ?_, pos_not1 _ _, ?_, fun q hq => ?_⟩
    · rw [notGo, mem_not1]
      exact ⟨fun ⟨h1, h2⟩ => ⟨h1, h2, memL_nil x⟩, fun ⟨h1, h2, _⟩ => ⟨h1, h2⟩⟩
    · unfold notGo not1; split <;> simp [Apart]
    · obtain ⟨h1, h2⟩ := in_not1 hq
      rw [h1, h2]; exact ⟨Rat.le_refl, Rat.le_refl⟩
  | a :: l, f, hf, hp, ha, hlo, hhi => by
    obtain ⟨a1, a2⟩ := List.pairwise_cons.1 ha
    have pa := hp a (by simp)
    have h1 := hhi a (by simp)
    have h0 := hlo a (by simp)
    obtain ⟨m, p, ap, b⟩ := notGo_ok l a.2 h1 (fun q hq => hp q (by simp [hq])) a2 (fun q hq => Rat.le_of_lt (a1 q hq)) (fun q hq => hhi q (by simp [hq]))
    refine ⟨fun x => ?_, ?_, ?_, ?_⟩
    · rw [notGo, memL_append, mem_not1, m x, memL_cons]
      unfold mem
      constructor
      · rintro (⟨g1, g2⟩ | ⟨g1, g2, g3⟩)
        · refine ⟨g1, by grind, fun h => ?_⟩
          rcases h with h | h
          · grind
          · obtain ⟨c, hc, hc1, hc2⟩ := h
            have := a1 c hc
            grind
        · refine ⟨by grind, g2, fun h => ?_⟩
          rcases h with h | h
          · grind
          · exact g3 h
      · rintro ⟨g1, g2, g3⟩
        by_cases hx : x < a.1
        · exact .inl ⟨g1, hx⟩
        · refine .inr ⟨?_, g2, fun h => g3 (.inr h)⟩
          refine Rat.not_lt.1 fun h => g3 (.inl ⟨Rat.not_lt.1 hx, h⟩)
    · intro q hq
      rw [notGo] at hq
      rcases List.mem_append.1 hq with hq | hq
      · exact pos_not1 _ _ q hq
      · exact p q hq
    · rw [notGo]
      refine List.pairwise_append.2 ⟨by unfold not1; split <;> simp, ap, fun q hq r hr => ?_⟩
      obtain ⟨_, e2⟩ := in_not1 hq
      have := (b r hr).1
      grind
    · intro q hq
      rw [notGo] at hq
      rcases List.mem_append.1 hq with hq | hq
      · obtain ⟨e1, e2⟩ := in_not1 hq
        rw [e1, e2]
        exact ⟨Rat.le_refl, by grind⟩
      · obtain ⟨g1, g2⟩ := b q hq
        exact ⟨by grind, g2⟩

theorem notL_ok {l : List Q2} (hp : Pos l) (ha : Apart l) (hi : In01 l) : (∀ x, memL x (notL l) ↔ 0 ≤ x ∧ x < 1 ∧ ¬ memL x l) ∧ Pos (notL l) ∧ Apart (notL l) ∧ In01 (notL l) :=
  notGo_ok l 0 (by decide) hp ha (fun a h => (hi a h).1) (fun a h => (hi a h).2)

theorem mx_le {p q x : Rat} : mxQ p q ≤ x ↔ p ≤ x ∧ q ≤ x := by unfold mxQ; split <;> grind
theorem lt_mn {p q x : Rat} : x < mnQ p q ↔ x < p ∧ x < q := by unfold mnQ; split <;> grind
theorem le_mx1 (p q : Rat) : p ≤ mxQ p q := by unfold mxQ; split <;> grind
theorem le_mx2 (p q : Rat) : q ≤ mxQ p q := by unfold mxQ; split <;> grind
theorem mn_le1 (p q : Rat) : mnQ p q ≤ p := by unfold mnQ; split <;> grind
theorem mn_le2 (p q : Rat) : mnQ p q ≤ q := by unfold mnQ; split <;> grind

theorem mem_meet1 {x : Rat} {p q : Q2} : memL x (meet1 p q) ↔ mem x p ∧ mem x q := by
  unfold meet1
  rw [mem_not1, mx_le, lt_mn]
  unfold mem
  exact ⟨fun ⟨⟨a, b⟩, c, d⟩ => ⟨⟨a, c⟩, b, d⟩, fun ⟨⟨a, c⟩, b, d⟩ => ⟨⟨a, b⟩, c, d⟩⟩

theorem memL_flat {α : Type} {x : Rat} {f : α → List Q2} {l : List α} : memL x (l.flatMap f) ↔ ∃ a ∈ l, memL x (f a) := by
  unfold memL
  constructor
  · rintro ⟨q, hq, hx⟩
    obtain ⟨a, ha, hqa⟩ := List.mem_flatMap.1 hq
    exact ⟨a, ha, q, hqa, hx⟩
  · rintro ⟨a, ha, q, hq, hx⟩
    exact ⟨q, List.mem_flatMap.2 ⟨a, ha, hq⟩, hx⟩

theorem mem_meetL {x : Rat} {a b : List Q2} : memL x (meetL a b) ↔ memL x a ∧ memL x b := by
  unfold meetL
  rw [memL_flat]
  constructor
  · rintro ⟨p, hp, h⟩
    obtain ⟨q, hq, h⟩ := memL_flat.1 h
    obtain ⟨h1, h2⟩ := mem_meet1.1 h
    exact ⟨⟨p, hp, h1⟩, ⟨q, hq, h2⟩⟩
  · rintro ⟨⟨p, hp, h1⟩, ⟨q, hq, h2⟩⟩
    exact ⟨p, hp, memL_flat.2 ⟨q, hq, mem_meet1.2 ⟨h1, h2⟩⟩⟩

theorem in_meet1 {p q u : Q2} (h : u ∈ meet1 p q) : u.1 = mxQ p.1 q.1 ∧ u.2 = mnQ p.2 q.2 := in_not1 h

theorem pos_meetL (a b : List Q2) : Pos (meetL a b) := by
  intro u hu
  obtain ⟨p, hp, hu⟩ := List.mem_flatMap.1 hu
  obtain ⟨q, hq, hu⟩ := List.mem_flatMap.1 hu
  exact pos_not1 _ _ u hu

theorem apart_flat {α : Type} {f : α → List Q2} : ∀ {l : List α}, (∀ x ∈ l, Apart (f x)) → l.Pairwise (fun x y => ∀ u ∈ f x, ∀ v ∈ f y, u.2 < v.1) → Apart (l.flatMap f)
  | [], _, _ => by simp [Apart]
  | x :: l, h1, h2 => by
    obtain ⟨h3, h4⟩ := List.pairwise_cons.1 h2
    rw [List.flatMap_cons]
    refine List.pairwise_append.2 ⟨h1 x (by simp), apart_flat (fun y hy => h1 y (by simp [hy])) h4, fun u hu v hv => ?_⟩
    obtain ⟨y, hy, hv⟩ := List.mem_flatMap.1 hv
    exact h3 y hy u hu v hv

theorem apart_meetL {a b : List Q2} (ha : Apart a) (hb : Apart b) : Apart (meetL a b) := by
  refine apart_flat (fun x hx => apart_flat (fun y hy => ?_) (hb.imp ?_)) (ha.imp ?_)
  · unfold meet1 not1; split <;> simp [Apart]
  · intro y y' hyy u hu v hv
    rw [(in_meet1 hu).2, (in_meet1 hv).1]
    have := mn_le2 x.2 y.2
    have := le_mx2 x.1 y'.1
    grind
  · intro x x' hxx u hu v hv
    obtain ⟨y, hy, hu⟩ := List.mem_flatMap.1 hu
    obtain ⟨y', hy', hv⟩ := List.mem_flatMap.1 hv
    rw [(in_meet1 hu).2, (in_meet1 hv).1]
    have := mn_le1 x.2 y.2
    have := le_mx1 x'.1 y'.1
    grind

/-- Unlike elements of a list are no more than its elements. -/
theorem len_sub {α : Type} [DecidableEq α] : ∀ {l m : List α}, l.Nodup → (∀ x ∈ l, x ∈ m) → l.length ≤ m.length
  | [], m, _, _ => Nat.zero_le _
  | x :: l, m, h, hs => by
    obtain ⟨h1, h2⟩ := List.nodup_cons.1 h
    have hx := hs x (by simp)
    have := len_sub (m := m.erase x) h2 fun y hy => (List.mem_erase_of_ne (fun e : y = x => h1 (by rw [← e]; exact hy))).2 (hs y (by simp [hy]))
    rw [List.length_erase_of_mem hx] at this
    have := List.length_pos_of_mem hx
    simp only [List.length_cons]; omega

theorem apart_starts {l : List Q2} (hp : Pos l) (ha : Apart l) : (l.map Prod.fst).Nodup := by
  refine List.pairwise_map.2 ?_
  refine List.Pairwise.imp_of_mem (fun {a b} h1 h2 hab e => ?_) ha
  have := hp a h1
  grind

theorem meetL_few {a b : List Q2} (ha : Apart a) (hb : Apart b) : (meetL a b).length ≤ a.length + b.length := by
  have h := len_sub (l := (meetL a b).map Prod.fst) (m := a.map Prod.fst ++ b.map Prod.fst) (apart_starts (pos_meetL a b) (apart_meetL ha hb)) (fun x hx => by
    obtain ⟨u, hu, rfl⟩ := List.mem_map.1 hx
    obtain ⟨p, hp, hu⟩ := List.mem_flatMap.1 hu
    obtain ⟨q, hq, hu⟩ := List.mem_flatMap.1 hu
    rw [(in_meet1 hu).1]
    unfold mxQ
    split
    · exact List.mem_append.2 (.inl (List.mem_map.2 ⟨p, hp, rfl⟩))
    · exact List.mem_append.2 (.inr (List.mem_map.2 ⟨q, hq, rfl⟩)))
  simpa using h

theorem in_meetL {a b : List Q2} (ha : In01 a) : In01 (meetL a b) :=
  in01_of (pos_meetL a b) fun x hx => in01_mem ha (mem_meetL.1 hx).1

end Go.Num
end

/-
  Charts in normal form, not too large.
-/
section
set_option linter.unusedVariables false
namespace Go.Num

/-- A chart in normal form, not too large. -/
structure NQ (b n : Nat) (L : List Q2) : Prop where
  pos : Pos L
  ap : Apart L
  in1 : In01 L
  len : L.length ≤ n
  rz : rzQ b L

theorem NQ.mono {b n b' n' : Nat} {L : List Q2} (h : NQ b n L) (hb : b ≤ b') (hn : n ≤ n') : NQ b' n' L :=
  ⟨h.pos, h.ap, h.in1, Nat.le_trans h.len hn, fun q hq => ⟨Nat.le_trans (h.rz q hq).1 hb, Nat.le_trans (h.rz q hq).2 hb⟩⟩
theorem NQ.chk {b n : Nat} {L : List Q2} (h : NQ b n L) (hn : n ≤ 64) : Go.Num.chk [L.map acan] = 0 := chk_can (Nat.le_trans h.len hn) h.pos h.in1
theorem NQ.ok {b n c : Nat} {L : List Q2} (h : NQ b n L) (hb : b ≤ c) : okAs c (L.map acan) := okAs_can fun q hq => ⟨Nat.le_trans (h.rz q hq).1 hb, Nat.le_trans (h.rz q hq).2 hb⟩
theorem NQ.res {b n : Nat} {L : List Q2} (h : NQ b n L) (hn : n ≤ 64) : Go.Num.res 0 L = L := by
  have := h.len
  unfold Go.Num.res lim64
  rw [if_pos rfl, if_neg (by omega)]
theorem NQ.cod {b n : Nat} {L : List Q2} (h : NQ b n L) (hn : n ≤ 64) : Go.Num.cod 0 L = 0 := by
  have := h.len
  unfold Go.Num.cod code64
  rw [if_pos rfl, if_neg (by omega)]
theorem NQ.nrm {b n : Nat} {L : List Q2} (h : NQ b n L) : Go.Num.nrm L = L := nrm_eq h.pos h.pos h.ap fun x => Iff.rfl

/-- The normal form. -/
theorem nq_nrm {b n : Nat} {L : List Q2} (hp : Pos L) (hi : In01 L) (hl : L.length ≤ n) (hr : rzQ b L) : NQ b n (Go.Num.nrm L) :=
  ⟨(nrm_ok hp).1, (nrm_ok hp).2.1, nrm_in hp hi, Nat.le_trans (nrm_len L) hl, rzQ_nrm hr⟩
theorem nq_not {b n : Nat} {L : List Q2} (h : NQ b n L) (hb : 2 ≤ b) : NQ b (n + 1) (notL L) := by
  obtain ⟨h1, h2, h3, h4⟩ := notL_ok h.pos h.ap h.in1
  refine ⟨h2, h3, h4, Nat.le_trans (notL_len L) (Nat.succ_le_succ h.len), fun q hq => ?_⟩
  unfold notL at hq
  rw [notGo_gaps] at hq
  obtain ⟨g1, g2⟩ := rz_gaps (b := b) L 0 (by rw [rz_zero]; exact Nat.zero_le _) h.rz
  rcases List.mem_append.1 hq with hq | hq
  · exact g1 q hq
  · obtain ⟨e1, e2⟩ := in_not1 hq
    rw [e1, e2]
    exact ⟨g2, Nat.le_trans rz_one hb⟩
theorem nq_meet {b n m : Nat} {L M : List Q2} (h : NQ b n L) (k : NQ b m M) : NQ b (n + m) (meetL L M) := by
  refine ⟨pos_meetL L M, apart_meetL h.ap k.ap, in_meetL h.in1, Nat.le_trans (meetL_few h.ap k.ap) (Nat.add_le_add h.len k.len), fun u hu => ?_⟩
  obtain ⟨p, hp, hu⟩ := List.mem_flatMap.1 hu
  obtain ⟨q, hq, hu⟩ := List.mem_flatMap.1 hu
  rw [(in_meet1 hu).1, (in_meet1 hu).2]
  exact ⟨rz_mx (h.rz p hp).1 (k.rz q hq).1, rz_mn (h.rz p hp).2 (k.rz q hq).2⟩

theorem any_can (y : Rat) (L : List Q2) : (L.map acan).any (inA y) = decide (memL y L) := by rw [any_mem, vals_can]

/-- What a valid chart gives. -/
theorem nq_val {l : List Arc} {b : Nat} (h : chk [l] = 0) (hl : l.length ≤ 20) (ho : okAs b l) : NQ b 20 (nrm (vals l)) :=
  nq_nrm (chk_val h).1 (chk_val h).2 (by simpa [vals] using hl) (rzQ_vals ho)

theorem not_not {b n : Nat} {L : List Q2} (h : NQ b n L) (hb : 2 ≤ b) : notL (notL L) = L := by
  obtain ⟨h1, h2, h3, h4⟩ := notL_ok h.pos h.ap h.in1
  obtain ⟨k1, k2, k3, k4⟩ := notL_ok h2 h3 h4
  refine chart_ext k2 k3 h.pos h.ap fun x => ?_
  rw [k1 x, h1 x]
  constructor
  · rintro ⟨a, b, c⟩
    by_cases hx : memL x L
    · exact hx
    · exact absurd ⟨a, b, hx⟩ c
  · intro hx
    obtain ⟨a, b⟩ := in01_mem h.in1 hx
    exact ⟨a, b, fun ⟨_, _, c⟩ => c hx⟩

end Go.Num
end
