/-
  The statement CouplerCurvesUptoSaid: whatever the arguments of bulk at most 1048576, the law CouplerCurves returns true and the arguments read as they did.
-/
import Derived.Test.YtjggkdaangghfaaGreatRows
import Derived.Test.YtjggkdaangghfaaGreatHold
import Derived.WalkKit
import Derived.ProofKit
import Derived.OpenShut
import Derived.JoinedCond
namespace Go.Proofs.YtjggkdaangghfaaGreat.couplerCurves
open Go.ChangeShapes Go.WideShapes Go.ChangeAt Go.RowKit Go.Abs Go.Num
set_option linter.unusedVariables false

theorem own : ownKnob Tryz.prog.godebug = none := by kernel_rfl
theorem laid : laidOutB Tryz.prog = true := by kernel_rfl

theorem part_le {H : Type} {d : DataW H} {l : List (DataW H)} (h : d ∈ l) : Rows.uptoBulk d <= Rows.uptoBulkAll l := by
  induction l with
  | nil => cases h
  | cons x r ih =>
    simp only [Rows.uptoBulkAll]
    cases List.mem_cons.1 h with
    | inl e => subst e; omega
    | inr e => have := ih e; omega
theorem one_le {H : Type} (d : DataW H) : 1 <= Rows.uptoBulk d := by
  cases d with
  | lit l => cases l <;> simp [Rows.uptoBulk]
  | nil => simp [Rows.uptoBulk]
  | ptr d => simp [Rows.uptoBulk]
  | slice elems spare => simp [Rows.uptoBulk]
  | agg parts => simp [Rows.uptoBulk]
  | iface t d => simp [Rows.uptoBulk]
  | map entries => simp [Rows.uptoBulk]
  | held h => simp [Rows.uptoBulk]
theorem length_le {H : Type} (l : List (DataW H)) : l.length <= Rows.uptoBulkAll l := by
  induction l with
  | nil => simp [Rows.uptoBulkAll]
  | cons x r ih => have := one_le x; simp only [Rows.uptoBulkAll, List.length_cons]; omega
theorem bk {H : Type} : Bk (Rows.uptoBulk (H := H)) :=
  ⟨λes sp => by have := length_le es; simp only [Rows.uptoBulk]; omega, λes sp e h => by have := part_le h; simp only [Rows.uptoBulk]; omega, λps e h => by have := part_le h; simp only [Rows.uptoBulk]; omega⟩

theorem tRat : RatT Tryz.prog 24 := ⟨⟨_, _, _, _, Tryz.underlying24, rfl, rfl, rfl, by kernel_rfl, by kernel_rfl, by kernel_rfl, by kernel_rfl, Tryz.underlying4, Tryz.underlying22, Tryz.underlying22, by kernel_rfl, by kernel_rfl⟩⟩
theorem tPlc : ArcT Tryz.prog 26 := ⟨⟨_, _, Tryz.underlying26, rfl, rfl, by kernel_rfl, by kernel_rfl, by kernel_rfl, tRat, tRat⟩⟩
theorem tCp : CpT Tryz.prog 28 := ⟨⟨_, _, _, _, _, _, _, Tryz.underlying28, ⟨rfl, rfl, rfl, rfl, rfl, rfl, rfl⟩, by kernel_rfl, ⟨by kernel_rfl, by kernel_rfl, by kernel_rfl, by kernel_rfl, by kernel_rfl, by kernel_rfl, by kernel_rfl⟩, tPlc, tPlc, tRat, tRat, tRat, tRat, tRat⟩⟩

set_option maxRecDepth 100000 in
theorem contract (H : Type) (enc : TypeId × Value -> H) (W : World) (base : Nat) (args : Array Value) (ds gs : List (DataW H)) (before : List MemPlace)
    (hval : ∀ (j : Nat) t v, Tryz.f3.params[j]? = some t -> args[j]? = some v -> Value.okWide Tryz.prog W .any base t v)
    (hW : DataW.Whole enc Tryz.prog Tryz.f3.params.toList Rows.couplerCurvesSpec.vars false W args.toList ds gs before) (hk : Rows.uptoSmall H (ds ++ gs) = true) :
    Calls Tryz.prog 3 args W λe W' => ∃ v, e = .returned v /\ Rows.couplerCurvesSpec.post enc Tryz.prog Tryz.f3 false true false false W args v W' := by
  have hW' := hW
  have hlt := hW.lt
  obtain ⟨p, q, hA0, hV, rfl, hfz, hnd⟩ := hW
  have hA : DataW.TrodAll enc Tryz.prog W 0 (λ_ => true) true Tryz.f3.params.toList args.toList ds p := hA0
  rw [Tryz.params3] at hA hval
  obtain ⟨v0, vs0, d0, ds0, p0, q0, hargs, rfl, rfl, h0, r0⟩ := trodAll_cons hA
  obtain ⟨rfl, rfl, rfl⟩ := trodAll_nil r0
  obtain rfl : args = #[v0] := by cases args; simp_all
  obtain ⟨rfl, rfl⟩ := trodVars_none hV
  clear hA0
  have hb : Rows.uptoBulkAll ([d0] ++ []) <= 1048576 := of_decide_eq_true hk
  have y0 : Value.okWide Tryz.prog W .any base 28 v0 := hval 0 28 v0 rfl rfl
  have z0 := ya6 (enc := enc) (w := W) (P := Tryz.prog) (bulk := Rows.uptoBulk) bk tCp
  obtain ⟨a0, o0, g0⟩ := XaK (bulk := Rows.uptoBulk) Tryz.underlying28 y0 h0 z0
  have b0 : Rows.uptoBulk d0 <= 1048576 := Nat.le_trans (part_le (l := [d0] ++ []) (by simp)) hb
  refine (xaM hold (rfl : Gl L158 3 = .dat true Yj) (RAs.cons g0 RAs.nil) ?_ ⟨a0, rfl, o0.1, Nat.le_trans o0.2 b0, rfl⟩).mono λe W' ⟨he, hbl, hfr⟩ => ?_
  . intro a ha
    simp only [List.mem_cons, List.not_mem_nil, or_false] at ha
    rcases ha with rfl
    . exact YaV a0
  subst he
  exact ⟨_, rfl, post_of_same (pa := p0 ++ []) (pv := []) hW' (λ_ _ _ => trodAll_cons_mk (shut_bool Tryz.underlying4 _) trodAll_mk0) (λsp hsp => (trodAll_cons_mk (Go.WideElems.Trod_stays laid (by kernel_rfl) (of_decide_eq_true (by kernel_rfl)) h0 (λx hx => hbl.same (hlt x (by simp [hx]))) (λx hx => hsp x (by simp [hx]))) trodAll_mk0)) (λ_ _ => rfl) rfl
    (hbl.frame _) hfr (ok_one (by kernel_rfl) rfl (okWide_bool_mk Tryz.underlying4 _))⟩

set_option maxRecDepth 100000 in
theorem lifted (os : Os) (started : os.Started) (H : Type) (enc : TypeId × Value -> H) (F : Stop.Interp) :
    ReturnsInHanded {} Tryz.checked os 3 .any ((Rows.OpenSpec.upto Rows.couplerCurvesSpec).pre6 enc Tryz.prog Tryz.f3 Rows.couplerCurvesUptoRow.domain false) (((Rows.OpenSpec.upto Rows.couplerCurvesSpec).at F).post enc Tryz.prog Tryz.f3 false true false false) := by
  refine returnsInHanded_of_cond (C := Tryz.checked) (s := Rows.OpenSpec.upto Rows.couplerCurvesSpec) (k := Rows.uptoSmall) rfl own started (by kernel_rfl) Tryz.func3
    (OpenSpec.witness (enc := enc) (C := Tryz.checked) (s := Rows.OpenSpec.upto Rows.couplerCurvesSpec) (k := Rows.uptoSmall) rfl false ⟨#[], #[.agg #[.bool false, .slice none 0 0, .slice none 0 0, .bool false, .slice none 0 0, .slice none 0 0, .bool false, .slice none 0 0, .slice none 0 0, .bool false, .slice none 0 0, .slice none 0 0, .bool false, .slice none 0 0, .slice none 0 0, .bool false, .slice none 0 0, .slice none 0 0, .bool false, .slice none 0 0, .slice none 0 0, .bool false, .slice none 0 0, .slice none 0 0, .bool false, .slice none 0 0, .slice none 0 0]], []⟩ 8 (by kernel_rfl) (by kernel_rfl) (by kernel_rfl)
      (x := ([.agg [.agg [.agg [.lit (.bool false), .nil, .nil], .agg [.lit (.bool false), .nil, .nil]], .agg [.agg [.lit (.bool false), .nil, .nil], .agg [.lit (.bool false), .nil, .nil]], .agg [.lit (.bool false), .nil, .nil], .agg [.lit (.bool false), .nil, .nil], .agg [.lit (.bool false), .nil, .nil], .agg [.lit (.bool false), .nil, .nil], .agg [.lit (.bool false), .nil, .nil]]], [], [])) (by kernel_rfl) rfl (by kernel_rfl)) ?_
  intro W base args ds gs before hval hW _ hk _
  exact contract H enc W base args ds gs before hval hW hk

theorem over : Rows.couplerCurvesUptoRow.holds Tryz.pinned (Rows.OpenSpec.upto Rows.couplerCurvesSpec) :=
  OpenClaim.holds_of_cond 3 Tryz.f3 rfl rfl rfl rfl rfl rfl rfl ⟨rfl, rfl, rfl, rfl, rfl⟩ rfl rfl rfl rfl rfl (by kernel_rfl) Tryz.func3 (by kernel_rfl)
    (of_decide_eq_true (by kernel_rfl)) (by unfold Func.isWrapper; first | (rw [if_pos (by decide +kernel)]; kernel_rfl) | (rw [if_neg (by decide +kernel)]; exact ⟨rfl, rfl⟩))
    (λos started H enc _ F => lifted os started H enc F)

theorem proved : Rows.CouplerCurvesUptoSaid := over
end Go.Proofs.YtjggkdaangghfaaGreat.couplerCurves
