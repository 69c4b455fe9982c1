/-
  The statement BurmesterCurvesUptoSaid: whatever the arguments of bulk at most 1048576, the law BurmesterCurves returns true and the arguments read as they did.
-/
import Derived.Test.YtneiiodebbmcaaaGreatDoorRows
import Derived.Test.YtneiiodebbmcaaaGreatDoorHold
import Derived.WalkKit
import Derived.ProofKit
import Derived.OpenShut
import Derived.JoinedCond
import Derived.Test.YtneiiodebbmcaaaGreatDoorCards
import Derived.Test.YtneiiodebbmcaaaGreatDoorTie
import Derived.SevenTiedAt
import Derived.Deep.DeepHandedRow
import Derived.LaidLaws
namespace Go.Proofs.YtneiiodebbmcaaaGreatDoor.burmesterCurves
open Go.ChangeShapes Go.WideShapes Go.ChangeAt Go.RowKit Go.Abs Go.Num
set_option linter.unusedVariables false

theorem own : ownKnob Tryz.prog.godebug = none := by kernel_rfl
theorem laid : laidOutB Tryz.prog = true := by kernel_rfl

theorem part_le{H : Type}{d : DataW H}{l : List (DataW H)}(h : d ∈ l) : Rows.uptoBulk d <= Rows.uptoBulkAll l := by
  induction l with
  | nil => cases h
  | cons x r ih =>
    simp only [Rows.uptoBulkAll];cases List.mem_cons.1 h with
    | inl e => subst e; omega
    | inr e => have := ih e; omega
theorem one_le{H : Type}(d : DataW H) : 1 <= Rows.uptoBulk d := by
  cases d with
  | lit l => cases l <;> simp [Rows.uptoBulk]
  | nil => simp [Rows.uptoBulk]
  | ptr d => simp [Rows.uptoBulk]
  | slice elems spare => simp [Rows.uptoBulk]
  | agg parts => simp [Rows.uptoBulk]
  | iface t d => simp [Rows.uptoBulk]
  | map entries => simp [Rows.uptoBulk]
  | held h => simp [Rows.uptoBulk]
theorem length_le{H : Type}(l : List (DataW H)) : l.length <= Rows.uptoBulkAll l := by
  induction l with
  | nil => simp [Rows.uptoBulkAll]
  | cons x r ih => have := one_le x; simp only [Rows.uptoBulkAll, List.length_cons]; omega
theorem bk{H : Type} : Bk (Rows.uptoBulk (H := H)) :=
  ⟨λes sp => by have := length_le es; simp only [Rows.uptoBulk]; omega, λes sp e h => by have := part_le h; simp only [Rows.uptoBulk]; omega, λps e h => by have := part_le h; simp only [Rows.uptoBulk]; omega⟩

theorem tRat : RatT Tryz.prog 25 := ⟨⟨_, _, _, _, Tryz.underlying25, rfl, rfl, rfl, by kernel_rfl, by kernel_rfl, by kernel_rfl, by kernel_rfl, Tryz.underlying4, Tryz.underlying23, Tryz.underlying23, by kernel_rfl, by kernel_rfl⟩⟩
theorem tPlc : ArcT Tryz.prog 27 := ⟨⟨_, _, Tryz.underlying27, rfl, rfl, by kernel_rfl, by kernel_rfl, by kernel_rfl, tRat, tRat⟩⟩
theorem tTrn : TnT Tryz.prog 58 := ⟨⟨_, _, Tryz.underlying58, rfl, rfl, by kernel_rfl, by kernel_rfl, by kernel_rfl, tRat, Tryz.underlying4⟩⟩
theorem tPse : PsT Tryz.prog 60 := ⟨⟨_, _, Tryz.underlying60, rfl, rfl, by kernel_rfl, by kernel_rfl, by kernel_rfl, tTrn, tPlc⟩⟩
theorem tPses : PosesT Tryz.prog 22 := ⟨⟨60, Tryz.underlying22, by kernel_rfl, tPse⟩⟩
theorem tDya : DyT Tryz.prog 37 := ⟨⟨_, _, _, Tryz.underlying37, rfl, rfl, rfl, by kernel_rfl, by kernel_rfl, by kernel_rfl, by kernel_rfl, tPlc, tPlc, tRat⟩⟩

set_option maxRecDepth 100000 in
theorem contract(H : Type)(enc : TypeId × Value -> H)(W : World)(base : Nat)(args : Array Value)(ds gs : List (DataW H))(before : List MemPlace)
    (hval : ∀ (j : Nat) t v, Tryz.f6.params[j]? = some t -> args[j]? = some v -> Value.okWide Tryz.prog W .any base t v)
    (hW : DataW.Whole enc Tryz.prog Tryz.f6.params.toList Rows.burmesterCurvesSpec.vars false W args.toList ds gs before) (hk : Rows.uptoSmall H (ds ++ gs) = true) :
    Calls Tryz.prog 6 args W λe W' => ∃ v, e = .returned v /\ Rows.burmesterCurvesSpec.post enc Tryz.prog Tryz.f6 false true false false W args v W' := by
  have hW' := hW;have hlt := hW.lt;obtain⟨p, q, hA0, hV, rfl, hfz, hnd⟩ := hW;have hA : DataW.TrodAll enc Tryz.prog W 0 (λ_ => true) true Tryz.f6.params.toList args.toList ds p := hA0;rw [Tryz.params6] at hA hval;obtain⟨v0, vs0, d0, ds0, p0, q0, hargs, rfl, rfl, h0, r0⟩ := trodAll_cons hA;obtain⟨v1, vs1, d1, ds1, p1, q1, rfl, rfl, rfl, h1, r1⟩ := trodAll_cons r0;obtain⟨rfl, rfl, rfl⟩ := trodAll_nil r1;obtain rfl : args = #[v0, v1] := by cases args; simp_all
  obtain⟨rfl, rfl⟩ := trodVars_none hV;clear hA0;have hb : Rows.uptoBulkAll ([d0, d1] ++ []) <= 1048576 := of_decide_eq_true hk;have y0 : Value.okWide Tryz.prog W .any base 22 v0 := hval 0 22 v0 rfl rfl;have z0 := Yar (enc := enc) (w := W) (P := Tryz.prog) (bulk := Rows.uptoBulk) bk tPses;obtain⟨a0, o0, g0⟩ := Xbp (bulk := Rows.uptoBulk) (e := λl : List Ps => [C.slice (l.map pC)]) Tryz.underlying22 y0 h0 z0;have b0 : Rows.uptoBulk d0 <= 1048576 := Nat.le_trans (part_le (l := [d0, d1] ++ []) (by simp)) hb
  have y1 : Value.okWide Tryz.prog W .any base 25 v1 := hval 1 25 v1 rfl rfl;have z1 := vJ (enc := enc) (w := W) (P := Tryz.prog) (bulk := Rows.uptoBulk) bk tRat;obtain⟨a1, o1, g1⟩ := Va2 (bulk := Rows.uptoBulk) Tryz.underlying25 y1 h1 z1;have b1 : Rows.uptoBulk d1 <= 1048576 := Nat.le_trans (part_le (l := [d0, d1] ++ []) (by simp)) hb
  refine(ka1 hold (rfl : Gl L181 6 = .dat true Qo) (RAs.cons g0 (RAs.cons g1 RAs.nil)) ?_ ⟨a0, rfl, (λx hx => (o0.2 x hx).1), a1, rfl, o1.2, λx hx => kP _ _ _ b0 (o0.2 x hx), Nat.le_trans o1.1 b1, rfl⟩).mono λe W' ⟨he, hbl, hfr⟩ => ?_
  . intro a ha
    simp only [List.mem_cons, List.not_mem_nil, or_false] at ha;rcases ha with rfl | rfl
    . exact of_eq_true (uS a0)
    . exact J0 a1
  subst he;exact⟨_, rfl, post_of_same (pa := p0 ++ (p1 ++ [])) (pv := []) hW' (λ_ _ _ => trodAll_cons_mk (shut_bool Tryz.underlying4 _) trodAll_mk0) (λsp hsp => (trodAll_cons_mk (Go.WideElems.Trod_stays laid (by kernel_rfl) (of_decide_eq_true (by kernel_rfl)) h0 (λx hx => hbl.same (hlt x (by simp [hx]))) (λx hx => hsp x (by simp [hx]))) (trodAll_cons_mk (Go.WideElems.Trod_stays laid (by kernel_rfl) (of_decide_eq_true (by kernel_rfl)) h1 (λx hx => hbl.same (hlt x (by simp [hx]))) (λx hx => hsp x (by simp [hx]))) trodAll_mk0))) (λ_ _ => rfl) rfl
    (hbl.frame _) hfr (ok_one (by kernel_rfl) rfl (okWide_bool_mk Tryz.underlying4 _))⟩

/-- The cells that a plain datum lays. -/
noncomputable def laidCells(d : DataW Unit) : Array Value :=
  match d with
  | .agg l => (l.map λx => match x with | .lit (.int k n) => Value.int k n | _ => undef).toArray
  | _ => #[]
noncomputable def laidStep(h : Array Obj)(x : String × DataW Unit) : Array Obj :=
  h.modify ((Tryz.prog.globalNamed x.1).getD 0) fun
    | .cells _ t frozen => .cells (laidCells x.2) t frozen
    | o => o
/-- The settled world, the listed variables holding what their initialisers lay: the witness. -/
noncomputable def laidWorld(os : Os) : World :=
  { World.holding Tryz.prog os ⟨#[], #[], []⟩ with heap := Rows.burmesterCurvesUptoRow.laid.foldl laidStep (World.holding Tryz.prog os ⟨#[], #[], []⟩).heap }
theorem laid_met(os : Os)(args : Array Value) : laidMet Tryz.prog Rows.burmesterCurvesUptoRow.laid ((laidWorld os).forCall (λ_ _ => 0) ⟨#[], args, []⟩).memory :=
  laidMet_of_run' 8 (by kernel_rfl) (by kernel_rfl)
theorem witness_row(os : Os){H : Type}(enc : TypeId × Value -> H) :
    (Rows.OpenSpec.upto Rows.burmesterCurvesSpec).preRow enc Tryz.prog Tryz.f6 Rows.burmesterCurvesUptoRow.domain false Rows.burmesterCurvesUptoRow.laid ((laidWorld os).forCall (λ_ _ => 0) ⟨#[], #[.slice none 0 0, .agg #[.bool false, .slice none 0 0, .slice none 0 0]], []⟩).memory #[.slice none 0 0, .agg #[.bool false, .slice none 0 0, .slice none 0 0]] := by
  have hw : (DataW.whole enc Tryz.prog ((laidWorld os).forCall (λ_ _ => 0) ⟨#[], #[.slice none 0 0, .agg #[.bool false, .slice none 0 0, .slice none 0 0]], []⟩).memory Tryz.f6.params.toList (Rows.OpenSpec.upto Rows.burmesterCurvesSpec).vars false (#[.slice none 0 0, .agg #[.bool false, .slice none 0 0, .slice none 0 0]] : Array Value).toList 8).map (λx => (x.1, x.2.1)) =
      some ([.nil, .agg [.lit (.bool false), .nil, .nil]], []) := by kernel_rfl
  obtain⟨⟨x1, x2, x3⟩, hx, hx1⟩ := Option.map_eq_some_iff.1 hw;simp only [Prod.mk.injEq] at hx1;obtain⟨rfl, rfl⟩ := hx1;exact OpenSpec.preRow_of_cond 8 hx (by kernel_rfl) (λk hk => by cases hk; rfl) (by kernel_rfl) (laid_met os _)

set_option maxRecDepth 100000 in
theorem lifted(os : Os)(started : os.Started)(H : Type)(enc : TypeId × Value -> H)(F : Stop.Interp) :
    ReturnsInHanded {} Tryz.checked os 6 .any ((Rows.OpenSpec.upto Rows.burmesterCurvesSpec).preRow enc Tryz.prog Tryz.f6 Rows.burmesterCurvesUptoRow.domain false Rows.burmesterCurvesUptoRow.laid) (((Rows.OpenSpec.upto Rows.burmesterCurvesSpec).at F).post enc Tryz.prog Tryz.f6 false true false false) := by
  refine returnsInHanded_of_row (C := Tryz.checked) (s := Rows.OpenSpec.upto Rows.burmesterCurvesSpec) own started (by kernel_rfl) Tryz.func6
    (witness_row_at (enc := enc) (C := Tryz.checked) false (laidWorld os) #[.slice none 0 0, .agg #[.bool false, .slice none 0 0, .slice none 0 0]] rfl (by kernel_rfl) (by kernel_rfl) (by kernel_rfl) (witness_row os enc)) ?_
  intro W base args ds gs before hval hW _ hk _ _ _ _;exact contract H enc W base args ds gs before hval hW (hk _ rfl)

theorem over : Rows.burmesterCurvesUptoRow.holds Tryz.pinned (Rows.OpenSpec.upto Rows.burmesterCurvesSpec) :=
  OpenClaim.holds_of_cond 6 Tryz.f6 rfl rfl rfl rfl rfl rfl rfl ⟨rfl, rfl, rfl, rfl, rfl⟩ rfl rfl rfl rfl rfl (by kernel_rfl) Tryz.func6 (by kernel_rfl)
    (of_decide_eq_true (by kernel_rfl)) (by unfold Func.isWrapper; first | (rw [if_pos (by decide +kernel)]; kernel_rfl) | (rw [if_neg (by decide +kernel)]; exact⟨rfl, rfl⟩))
    (λos started H enc _ F => by rw [OpenClaim.pre_eq_preRow]; exact lifted os started H enc F)
/-- The tied card. -/
theorem proved : Rows.BurmesterCurvesUptoCardSaid :=
  Claim7.holds_tied_plain_at .later [] [.data, .data, .data] true (true, "b12936dafcc00f5c181331af9e6f00424a3e6ca890fa9c9f37044cd66000e053") true
    over (λ_ h => by cases h) (by kernel_rfl) (λ_ h => by cases h) burmesterCurvesUpto_row_tie rfl ⟨rfl, rfl⟩ (by kernel_rfl) rfl
    (λf fn hf hfn => by
      obtain rfl : f = 6 := Option.some.inj ((show Tryz.prog.funcNamed "linkwork/linkworklaw47.BurmesterCurves" = some 6 by kernel_rfl).symm.trans hf) |>.symm
      obtain rfl : fn = Tryz.f6 := (Option.some.inj (Tryz.func6.symm.trans hfn)).symm;exact⟨by kernel_rfl, λj t ht => by
        rw [Tryz.params6] at ht;have hm : t ∈ [22, 25] := by simpa using Array.mem_of_getElem? ht
        have hall : ([22, 25].all λu => !Tryz.prog.wantsStandIn u) = true := by kernel_rfl
        exact(show Tryz.prog.wantsStandIn t = false by simpa using List.all_eq_true.1 hall t hm)⟩)
    (by kernel_rfl)
end Go.Proofs.YtneiiodebbmcaaaGreatDoor.burmesterCurves
