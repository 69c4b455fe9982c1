/-
  The statement BipolyReducesUptoSaid: whatever the arguments of bulk at most 1048576, the law BipolyReduces returns true and the arguments read as they did.
-/
import Derived.Test.YthoibmokhnoccaaGreatDoorRows
import Derived.Test.YthoibmokhnoccaaGreatDoorHold
import Derived.WalkKit
import Derived.ProofKit
import Derived.OpenShut
import Derived.JoinedCond
import Derived.Test.YthoibmokhnoccaaGreatDoorCards
import Derived.Test.YthoibmokhnoccaaGreatDoorTie
import Derived.SevenTiedAt
import Derived.Deep.DeepHandedRow
import Derived.LaidLaws
namespace Go.Proofs.YthoibmokhnoccaaGreatDoor.bipolyReduces
open Go.ChangeShapes Go.WideShapes Go.ChangeAt Go.RowKit Go.Abs Go.Num
set_option linter.unusedVariables false

theorem own : ownKnob Tryz.prog.godebug = none := by kernel_rfl
theorem laid : laidOutB Tryz.prog = true := by kernel_rfl

theorem part_le{H : Type}{d : DataW H}{l : List (DataW H)}(h : d ∈ l) : Rows.uptoBulk d <= Rows.uptoBulkAll l := by
  induction l with
  | nil => cases h
  | cons x r ih =>
    simp only [Rows.uptoBulkAll];cases List.mem_cons.1 h with
    | inl e => subst e; omega
    | inr e => have := ih e; omega
theorem one_le{H : Type}(d : DataW H) : 1 <= Rows.uptoBulk d := by
  cases d with
  | lit l => cases l <;> simp [Rows.uptoBulk]
  | nil => simp [Rows.uptoBulk]
  | ptr d => simp [Rows.uptoBulk]
  | slice elems spare => simp [Rows.uptoBulk]
  | agg parts => simp [Rows.uptoBulk]
  | iface t d => simp [Rows.uptoBulk]
  | map entries => simp [Rows.uptoBulk]
  | held h => simp [Rows.uptoBulk]
theorem length_le{H : Type}(l : List (DataW H)) : l.length <= Rows.uptoBulkAll l := by
  induction l with
  | nil => simp [Rows.uptoBulkAll]
  | cons x r ih => have := one_le x; simp only [Rows.uptoBulkAll, List.length_cons]; omega
theorem bk{H : Type} : Bk (Rows.uptoBulk (H := H)) :=
  ⟨λes sp => by have := length_le es; simp only [Rows.uptoBulk]; omega, λes sp e h => by have := part_le h; simp only [Rows.uptoBulk]; omega, λps e h => by have := part_le h; simp only [Rows.uptoBulk]; omega⟩

theorem tRat : RatT Tryz.prog 26 := ⟨⟨_, _, _, _, Tryz.underlying26, rfl, rfl, rfl, by kernel_rfl, by kernel_rfl, by kernel_rfl, by kernel_rfl, Tryz.underlying4, Tryz.underlying24, Tryz.underlying24, by kernel_rfl, by kernel_rfl⟩⟩
theorem tMo : MoT Tryz.prog 79 := ⟨⟨_, _, _, Tryz.underlying79, rfl, rfl, rfl, by kernel_rfl, by kernel_rfl, by kernel_rfl, by kernel_rfl, Tryz.underlying3, Tryz.underlying3, tRat⟩⟩
theorem tBp : BpT Tryz.prog 23 := ⟨⟨79, Tryz.underlying23, by kernel_rfl, tMo⟩⟩
theorem tX2 : X2T Tryz.prog 56 := ⟨⟨26, Tryz.underlying56, by kernel_rfl, by kernel_rfl, tRat⟩⟩

set_option maxRecDepth 100000 in
theorem contract(H : Type)(enc : TypeId × Value -> H)(W : World)(base : Nat)(args : Array Value)(ds gs : List (DataW H))(before : List MemPlace)
    (hval : ∀ (j : Nat) t v, Tryz.f6.params[j]? = some t -> args[j]? = some v -> Value.okWide Tryz.prog W .any base t v)
    (hW : DataW.Whole enc Tryz.prog Tryz.f6.params.toList Rows.bipolyReducesSpec.vars false W args.toList ds gs before) (hk : Rows.uptoSmall H (ds ++ gs) = true) :
    Calls Tryz.prog 6 args W λe W' => ∃ v, e = .returned v /\ Rows.bipolyReducesSpec.post enc Tryz.prog Tryz.f6 false true false false W args v W' := by
  have hW' := hW;have hlt := hW.lt;obtain⟨p, q, hA0, hV, rfl, hfz, hnd⟩ := hW;have hA : DataW.TrodAll enc Tryz.prog W 0 (λ_ => true) true Tryz.f6.params.toList args.toList ds p := hA0;rw [Tryz.params6] at hA hval;obtain⟨v0, vs0, d0, ds0, p0, q0, hargs, rfl, rfl, h0, r0⟩ := trodAll_cons hA;obtain⟨v1, vs1, d1, ds1, p1, q1, rfl, rfl, rfl, h1, r1⟩ := trodAll_cons r0;obtain⟨v2, vs2, d2, ds2, p2, q2, rfl, rfl, rfl, h2, r2⟩ := trodAll_cons r1;obtain⟨rfl, rfl, rfl⟩ := trodAll_nil r2;obtain rfl : args = #[v0, v1, v2] := by cases args; simp_all
  obtain⟨rfl, rfl⟩ := trodVars_none hV;clear hA0;have hb : Rows.uptoBulkAll ([d0, d1, d2] ++ []) <= 1048576 := of_decide_eq_true hk;have y0 : Value.okWide Tryz.prog W .any base 23 v0 := hval 0 23 v0 rfl rfl;have z0 := jah (enc := enc) (w := W) (P := Tryz.prog) (bulk := Rows.uptoBulk) bk tBp;obtain⟨a0, o0, g0⟩ := uah (bulk := Rows.uptoBulk) (e := λl : List Mo => [C.slice (l.map mC)]) Tryz.underlying23 y0 h0 z0;have b0 : Rows.uptoBulk d0 <= 1048576 := Nat.le_trans (part_le (l := [d0, d1, d2] ++ []) (by simp)) hb
  have y1 : Value.okWide Tryz.prog W .any base 23 v1 := hval 1 23 v1 rfl rfl;have z1 := jah (enc := enc) (w := W) (P := Tryz.prog) (bulk := Rows.uptoBulk) bk tBp;obtain⟨a1, o1, g1⟩ := uah (bulk := Rows.uptoBulk) (e := λl : List Mo => [C.slice (l.map mC)]) Tryz.underlying23 y1 h1 z1;have b1 : Rows.uptoBulk d1 <= 1048576 := Nat.le_trans (part_le (l := [d0, d1, d2] ++ []) (by simp)) hb
  have y2 : Value.okWide Tryz.prog W .any base 56 v2 := hval 2 56 v2 rfl rfl;have z2 := kaX (enc := enc) (w := W) (P := Tryz.prog) (bulk := Rows.uptoBulk) bk tX2;obtain⟨a2, o2, g2⟩ := va6 (bulk := Rows.uptoBulk) Tryz.underlying56 y2 h2 z2;have b2 : Rows.uptoBulk d2 <= 1048576 := Nat.le_trans (part_le (l := [d0, d1, d2] ++ []) (by simp)) hb
  refine(zaQ hold (rfl : Gl L147 6 = .dat true jO) (RAs.cons g0 (RAs.cons g1 (RAs.cons g2 RAs.nil))) ?_ ⟨a0, rfl, (λx hx => (o0.2 x hx).1), a1, rfl, (λx hx => (o1.2 x hx).1), a2, rfl, o2.1, ⟨Nat.le_trans o0.1 b0, λx hx => Nat.le_trans (o0.2 x hx).2 b0⟩, ⟨Nat.le_trans o1.1 b1, λx hx => Nat.le_trans (o1.2 x hx).2 b1⟩, Nat.le_trans o2.2 b2, rfl⟩).mono λe W' ⟨he, hbl, hfr⟩ => ?_
  . intro a ha
    simp only [List.mem_cons, List.not_mem_nil, or_false] at ha;rcases ha with rfl | rfl | rfl
    . exact of_eq_true (Uw a0)
    . exact of_eq_true (Uw a1)
    . exact(λc hc => kal a2 c hc)
  subst he;exact⟨_, rfl, uT (pa := p0 ++ (p1 ++ (p2 ++ []))) (pv := []) hW' (λ_ _ _ => trodAll_cons_mk (shut_bool Tryz.underlying4 _) trodAll_mk0) (λsp hsp => (trodAll_cons_mk (Go.WideElems.Trod_stays laid (by kernel_rfl) (of_decide_eq_true (by kernel_rfl)) h0 (λx hx => hbl.same (hlt x (by simp [hx]))) (λx hx => hsp x (by simp [hx]))) (trodAll_cons_mk (Go.WideElems.Trod_stays laid (by kernel_rfl) (of_decide_eq_true (by kernel_rfl)) h1 (λx hx => hbl.same (hlt x (by simp [hx]))) (λx hx => hsp x (by simp [hx]))) (trodAll_cons_mk (Go.WideElems.Trod_stays laid (by kernel_rfl) (of_decide_eq_true (by kernel_rfl)) h2 (λx hx => hbl.same (hlt x (by simp [hx]))) (λx hx => hsp x (by simp [hx]))) trodAll_mk0)))) (λ_ _ => rfl) rfl
    (hbl.frame _) hfr (ok_one (by kernel_rfl) rfl (okWide_bool_mk Tryz.underlying4 _))⟩

/-- The cells that a plain datum lays. -/
noncomputable def laidCells(d : DataW Unit) : Array Value :=
  match d with
  | .agg l => (l.map λx => match x with | .lit (.int k n) => Value.int k n | _ => undef).toArray
  | _ => #[]
noncomputable def laidStep(h : Array Obj)(x : String × DataW Unit) : Array Obj :=
  h.modify ((Tryz.prog.globalNamed x.1).getD 0) fun
    | .cells _ t frozen => .cells (laidCells x.2) t frozen
    | o => o
/-- The settled world, the listed variables holding what their initialisers lay: the witness. -/
noncomputable def laidWorld(os : Os) : World :=
  { World.holding Tryz.prog os ⟨#[], #[], []⟩ with heap := Rows.bipolyReducesUptoRow.laid.foldl laidStep (World.holding Tryz.prog os ⟨#[], #[], []⟩).heap }
theorem laid_met(os : Os)(args : Array Value) : laidMet Tryz.prog Rows.bipolyReducesUptoRow.laid ((laidWorld os).forCall (λ_ _ => 0) ⟨#[], args, []⟩).memory :=
  laidMet_of_run' 8 (by kernel_rfl) (by kernel_rfl)
theorem witness_row(os : Os){H : Type}(enc : TypeId × Value -> H) :
    (Rows.OpenSpec.upto Rows.bipolyReducesSpec).preRow enc Tryz.prog Tryz.f6 Rows.bipolyReducesUptoRow.domain false Rows.bipolyReducesUptoRow.laid ((laidWorld os).forCall (λ_ _ => 0) ⟨#[], #[.slice none 0 0, .slice none 0 0, .agg #[.bool false, .slice none 0 0, .slice none 0 0, .bool false, .slice none 0 0, .slice none 0 0]], []⟩).memory #[.slice none 0 0, .slice none 0 0, .agg #[.bool false, .slice none 0 0, .slice none 0 0, .bool false, .slice none 0 0, .slice none 0 0]] := by
  have hw : (DataW.whole enc Tryz.prog ((laidWorld os).forCall (λ_ _ => 0) ⟨#[], #[.slice none 0 0, .slice none 0 0, .agg #[.bool false, .slice none 0 0, .slice none 0 0, .bool false, .slice none 0 0, .slice none 0 0]], []⟩).memory Tryz.f6.params.toList (Rows.OpenSpec.upto Rows.bipolyReducesSpec).vars false (#[.slice none 0 0, .slice none 0 0, .agg #[.bool false, .slice none 0 0, .slice none 0 0, .bool false, .slice none 0 0, .slice none 0 0]] : Array Value).toList 8).map (λx => (x.1, x.2.1)) =
      some ([.nil, .nil, .agg [.agg [.lit (.bool false), .nil, .nil], .agg [.lit (.bool false), .nil, .nil]]], []) := by kernel_rfl
  obtain⟨⟨x1, x2, x3⟩, hx, hx1⟩ := Option.map_eq_some_iff.1 hw;simp only [Prod.mk.injEq] at hx1;obtain⟨rfl, rfl⟩ := hx1;exact OpenSpec.preRow_of_cond 8 hx (by kernel_rfl) (λk hk => by cases hk; rfl) (by kernel_rfl) (laid_met os _)

set_option maxRecDepth 100000 in
theorem lifted(os : Os)(started : os.Started)(H : Type)(enc : TypeId × Value -> H)(F : Stop.Interp) :
    ReturnsInHanded {} Tryz.checked os 6 .any ((Rows.OpenSpec.upto Rows.bipolyReducesSpec).preRow enc Tryz.prog Tryz.f6 Rows.bipolyReducesUptoRow.domain false Rows.bipolyReducesUptoRow.laid) (((Rows.OpenSpec.upto Rows.bipolyReducesSpec).at F).post enc Tryz.prog Tryz.f6 false true false false) := by
  refine returnsInHanded_of_row (C := Tryz.checked) (s := Rows.OpenSpec.upto Rows.bipolyReducesSpec) own started (by kernel_rfl) Tryz.func6
    (witness_row_at (enc := enc) (C := Tryz.checked) false (laidWorld os) #[.slice none 0 0, .slice none 0 0, .agg #[.bool false, .slice none 0 0, .slice none 0 0, .bool false, .slice none 0 0, .slice none 0 0]] rfl (by kernel_rfl) (by kernel_rfl) (by kernel_rfl) (witness_row os enc)) ?_
  intro W base args ds gs before hval hW _ hk _ _ _ _;exact contract H enc W base args ds gs before hval hW (hk _ rfl)

theorem over : Rows.bipolyReducesUptoRow.holds Tryz.pinned (Rows.OpenSpec.upto Rows.bipolyReducesSpec) :=
  OpenClaim.holds_of_cond 6 Tryz.f6 rfl rfl rfl rfl rfl rfl rfl ⟨rfl, rfl, rfl, rfl, rfl⟩ rfl rfl rfl rfl rfl (by kernel_rfl) Tryz.func6 (by kernel_rfl)
    (of_decide_eq_true (by kernel_rfl)) (by unfold Func.isWrapper; first | (rw [if_pos (by decide +kernel)]; kernel_rfl) | (rw [if_neg (by decide +kernel)]; exact⟨rfl, rfl⟩))
    (λos started H enc _ F => by rw [OpenClaim.pre_eq_preRow]; exact lifted os started H enc F)
/-- The tied card. -/
theorem proved : Rows.BipolyReducesUptoCardSaid :=
  Claim7.holds_tied_plain_at .later [] [.data, .data, .data] true (true, "cc07ce23614dfe40ec211b54e1d94835c80852487f51e02eea24d186bf704eee") true
    over (λ_ h => by cases h) (by kernel_rfl) (λ_ h => by cases h) bipolyReducesUpto_row_tie rfl ⟨rfl, rfl⟩ (by kernel_rfl) rfl
    (λf fn hf hfn => by
      obtain rfl : f = 6 := Option.some.inj ((show Tryz.prog.funcNamed "linkwork/linkworklaw09.BipolyReduces" = some 6 by kernel_rfl).symm.trans hf) |>.symm
      obtain rfl : fn = Tryz.f6 := (Option.some.inj (Tryz.func6.symm.trans hfn)).symm;exact⟨by kernel_rfl, λj t ht => by
        rw [Tryz.params6] at ht;have hm : t ∈ [23, 23, 56] := by simpa using Array.mem_of_getElem? ht
        have hall : ([23, 23, 56].all λu => !Tryz.prog.wantsStandIn u) = true := by kernel_rfl
        exact(show Tryz.prog.wantsStandIn t = false by simpa using List.all_eq_true.1 hall t hm)⟩)
    (by kernel_rfl)
end Go.Proofs.YthoibmokhnoccaaGreatDoor.bipolyReduces
