/-
  The statement WholeOutputUptoSaid: whatever the arguments of bulk at most 1048576, the law WholeOutput returns true and the arguments read as they did.
-/
import Derived.Test.YtfichbefnpcdeaaGreatRows
import Derived.Test.YtfichbefnpcdeaaGreatHold
import Derived.WalkKit
import Derived.ProofKit
import Derived.OpenShut
import Derived.JoinedCond
namespace Go.Proofs.YtfichbefnpcdeaaGreat.wholeOutput
open Go.ChangeShapes Go.WideShapes Go.ChangeAt Go.RowKit Go.Abs Go.Num
set_option linter.unusedVariables false

theorem own : ownKnob Tryz.prog.godebug = none := by kernel_rfl
theorem laid : laidOutB Tryz.prog = true := by kernel_rfl

theorem part_le{H : Type}{d : DataW H}{l : List (DataW H)}(h : d ∈ l) : Rows.uptoBulk d <= Rows.uptoBulkAll l := by
  induction l with
  | nil => cases h
  | cons x r ih =>
    simp only [Rows.uptoBulkAll];cases List.mem_cons.1 h with
    | inl e => subst e; omega
    | inr e => have := ih e; omega
theorem one_le{H : Type}(d : DataW H) : 1 <= Rows.uptoBulk d := by
  cases d with
  | lit l => cases l <;> simp [Rows.uptoBulk]
  | nil => simp [Rows.uptoBulk]
  | ptr d => simp [Rows.uptoBulk]
  | slice elems spare => simp [Rows.uptoBulk]
  | agg parts => simp [Rows.uptoBulk]
  | iface t d => simp [Rows.uptoBulk]
  | map entries => simp [Rows.uptoBulk]
  | held h => simp [Rows.uptoBulk]
theorem length_le{H : Type}(l : List (DataW H)) : l.length <= Rows.uptoBulkAll l := by
  induction l with
  | nil => simp [Rows.uptoBulkAll]
  | cons x r ih => have := one_le x; simp only [Rows.uptoBulkAll, List.length_cons]; omega
theorem bk{H : Type} : Bk (Rows.uptoBulk (H := H)) :=
  ⟨λes sp => by have := length_le es; simp only [Rows.uptoBulk]; omega, λes sp e h => by have := part_le h; simp only [Rows.uptoBulk]; omega, λps e h => by have := part_le h; simp only [Rows.uptoBulk]; omega⟩

theorem tRat : RatT Tryz.prog 60 := ⟨⟨_, _, _, _, Tryz.underlying60, rfl, rfl, rfl, by kernel_rfl, by kernel_rfl, by kernel_rfl, by kernel_rfl, Tryz.underlying4, Tryz.underlying58, Tryz.underlying58, by kernel_rfl, by kernel_rfl⟩⟩
theorem tPlc : ArcT Tryz.prog 88 := ⟨⟨_, _, Tryz.underlying88, rfl, rfl, by kernel_rfl, by kernel_rfl, by kernel_rfl, tRat, tRat⟩⟩
theorem tTrn : TnT Tryz.prog 64 := ⟨⟨_, _, Tryz.underlying64, rfl, rfl, by kernel_rfl, by kernel_rfl, by kernel_rfl, tRat, Tryz.underlying4⟩⟩
theorem tPse : PsT Tryz.prog 90 := ⟨⟨_, _, Tryz.underlying90, rfl, rfl, by kernel_rfl, by kernel_rfl, by kernel_rfl, tTrn, tPlc⟩⟩
theorem tFb : FbT Tryz.prog 62 := ⟨⟨_, _, _, _, _, _, Tryz.underlying62, ⟨rfl, rfl, rfl, rfl, rfl, rfl⟩, by kernel_rfl, ⟨by kernel_rfl, by kernel_rfl, by kernel_rfl, by kernel_rfl, by kernel_rfl, by kernel_rfl⟩, tRat, tRat, tRat, tRat, tRat, tRat⟩⟩

set_option maxRecDepth 100000 in
theorem contract(H : Type)(enc : TypeId × Value -> H)(W : World)(base : Nat)(args : Array Value)(ds gs : List (DataW H))(before : List MemPlace)
    (hval : ∀ (j : Nat) t v, Tryz.f5.params[j]? = some t -> args[j]? = some v -> Value.okWide Tryz.prog W .any base t v)
    (hW : DataW.Whole enc Tryz.prog Tryz.f5.params.toList Rows.wholeOutputSpec.vars false W args.toList ds gs before) (hk : Rows.uptoSmall H (ds ++ gs) = true) :
    Calls Tryz.prog 5 args W λe W' => ∃ v, e = .returned v /\ Rows.wholeOutputSpec.post enc Tryz.prog Tryz.f5 false true false false W args v W' := by
  have hW' := hW;have hlt := hW.lt;obtain⟨p, q, hA0, hV, rfl, hfz, hnd⟩ := hW;have hA : DataW.TrodAll enc Tryz.prog W 0 (λ_ => true) true Tryz.f5.params.toList args.toList ds p := hA0;rw [Tryz.params5] at hA hval;obtain⟨v0, vs0, d0, ds0, p0, q0, hargs, rfl, rfl, h0, r0⟩ := trodAll_cons hA;obtain⟨v1, vs1, d1, ds1, p1, q1, rfl, rfl, rfl, h1, r1⟩ := trodAll_cons r0;obtain⟨rfl, rfl, rfl⟩ := trodAll_nil r1;obtain rfl : args = #[v0, v1] := by cases args; simp_all
  obtain⟨rfl, rfl⟩ := trodVars_none hV;clear hA0;have hb : Rows.uptoBulkAll ([d0, d1] ++ []) <= 1048576 := of_decide_eq_true hk;have y0 : Value.okWide Tryz.prog W .any base 62 v0 := hval 0 62 v0 rfl rfl;have z0 := ZaK (enc := enc) (w := W) (P := Tryz.prog) (bulk := Rows.uptoBulk) bk tFb;obtain⟨a0, o0, g0⟩ := JR (bulk := Rows.uptoBulk) Tryz.underlying62 y0 h0 z0;have b0 : Rows.uptoBulk d0 <= 1048576 := Nat.le_trans (part_le (l := [d0, d1] ++ []) (by simp)) hb
  have y1 : Value.okWide Tryz.prog W .any base 64 v1 := hval 1 64 v1 rfl rfl;have z1 := xaH (enc := enc) (w := W) (P := Tryz.prog) (bulk := Rows.uptoBulk) bk tTrn;obtain⟨a1, o1, g1⟩ := JR (bulk := Rows.uptoBulk) Tryz.underlying64 y1 h1 z1;have b1 : Rows.uptoBulk d1 <= 1048576 := Nat.le_trans (part_le (l := [d0, d1] ++ []) (by simp)) hb
  refine(Vav hold (rfl : Gl L69 5 = .dat true yn) (RAs.cons g0 (RAs.cons g1 RAs.nil)) ?_ ⟨a0, rfl, o0.1, a1, rfl, o1.2, Nat.le_trans o0.2 b0, Nat.le_trans o1.1 b1, rfl⟩).mono λe W' ⟨he, hbl, hfr⟩ => ?_
  . intro a ha
    simp only [List.mem_cons, List.not_mem_nil, or_false] at ha;rcases ha with rfl | rfl
    . exact vaD a0
    . exact kaE a1
  subst he;exact⟨_, rfl, qO (pa := p0 ++ (p1 ++ [])) (pv := []) hW' (λ_ _ _ => trodAll_cons_mk (shut_bool Tryz.underlying4 _) trodAll_mk0) (λsp hsp => (trodAll_cons_mk (Go.WideElems.Trod_stays laid (by kernel_rfl) (of_decide_eq_true (by kernel_rfl)) h0 (λx hx => hbl.same (hlt x (by simp [hx]))) (λx hx => hsp x (by simp [hx]))) (trodAll_cons_mk (Go.WideElems.Trod_stays laid (by kernel_rfl) (of_decide_eq_true (by kernel_rfl)) h1 (λx hx => hbl.same (hlt x (by simp [hx]))) (λx hx => hsp x (by simp [hx]))) trodAll_mk0))) (λ_ _ => rfl) rfl
    (hbl.frame _) hfr (ok_one (by kernel_rfl) rfl (okWide_bool_mk Tryz.underlying4 _))⟩

set_option maxRecDepth 100000 in
theorem lifted(os : Os)(started : os.Started)(H : Type)(enc : TypeId × Value -> H)(F : Stop.Interp) :
    ReturnsInHanded {} Tryz.checked os 5 .any ((Rows.OpenSpec.upto Rows.wholeOutputSpec).pre6 enc Tryz.prog Tryz.f5 Rows.wholeOutputUptoRow.domain false) (((Rows.OpenSpec.upto Rows.wholeOutputSpec).at F).post enc Tryz.prog Tryz.f5 false true false false) := by
  refine returnsInHanded_of_cond (C := Tryz.checked) (s := Rows.OpenSpec.upto Rows.wholeOutputSpec) (k := Rows.uptoSmall) rfl own started (by kernel_rfl) Tryz.func5
    (OpenSpec.witness (enc := enc) (C := Tryz.checked) (s := Rows.OpenSpec.upto Rows.wholeOutputSpec) (k := Rows.uptoSmall) rfl false ⟨#[], #[.agg #[.bool false, .slice none 0 0, .slice none 0 0, .bool false, .slice none 0 0, .slice none 0 0, .bool false, .slice none 0 0, .slice none 0 0, .bool false, .slice none 0 0, .slice none 0 0, .bool false, .slice none 0 0, .slice none 0 0, .bool false, .slice none 0 0, .slice none 0 0], .agg #[.bool false, .slice none 0 0, .slice none 0 0, .bool false]], []⟩ 8 (by kernel_rfl) (by kernel_rfl) (by kernel_rfl)
      (x := ([.agg [.agg [.lit (.bool false), .nil, .nil], .agg [.lit (.bool false), .nil, .nil], .agg [.lit (.bool false), .nil, .nil], .agg [.lit (.bool false), .nil, .nil], .agg [.lit (.bool false), .nil, .nil], .agg [.lit (.bool false), .nil, .nil]], .agg [.agg [.lit (.bool false), .nil, .nil], .lit (.bool false)]], [], [])) (by kernel_rfl) rfl (by kernel_rfl)) ?_
  intro W base args ds gs before hval hW _ hk _;exact contract H enc W base args ds gs before hval hW hk

set_option maxHeartbeats 4000000 in
theorem joined : joinedFacts Tryz.pinned.checked.prog 5 Tryz.f5 (Rows.OpenSpec.upto Rows.wholeOutputSpec).bare Rows.wholeOutputUptoRow = true := by
  unfold joinedFacts;simp only [Bool.and_eq_true];repeat' apply And.intro
  all_goals (as_aux_lemma => kernel_rfl)

theorem over : Rows.wholeOutputUptoRow.holds Tryz.pinned (Rows.OpenSpec.upto Rows.wholeOutputSpec) :=
  OpenClaim.holds_of_cond 5 Tryz.f5 rfl rfl rfl rfl rfl rfl rfl ⟨rfl, rfl, rfl, rfl, rfl⟩ rfl rfl rfl rfl rfl (by kernel_rfl) Tryz.func5 joined
    (of_decide_eq_true (by kernel_rfl)) (by unfold Func.isWrapper; first | (rw [if_pos (by decide +kernel)]; kernel_rfl) | (rw [if_neg (by decide +kernel)]; exact⟨rfl, rfl⟩))
    (λos started H enc _ F => lifted os started H enc F)

theorem proved : Rows.WholeOutputUptoSaid := over
end Go.Proofs.YtfichbefnpcdeaaGreat.wholeOutput
