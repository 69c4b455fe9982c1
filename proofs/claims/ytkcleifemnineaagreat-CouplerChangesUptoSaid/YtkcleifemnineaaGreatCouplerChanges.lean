/-
  The statement CouplerChangesUptoSaid: whatever the arguments of bulk at most 1048576, the law CouplerChanges returns true and the arguments read as they did.
-/
import Derived.Test.YtkcleifemnineaaGreatRows
import Derived.Test.YtkcleifemnineaaGreatHold
import Derived.WalkKit
import Derived.ProofKit
import Derived.OpenShut
import Derived.JoinedCond
namespace Go.Proofs.YtkcleifemnineaaGreat.couplerChanges
open Go.ChangeShapes Go.WideShapes Go.ChangeAt Go.RowKit Go.Abs Go.Num
set_option linter.unusedVariables false

theorem own : ownKnob Tryz.prog.godebug = none := by kernel_rfl
theorem laid : laidOutB Tryz.prog = true := by kernel_rfl

theorem part_le {H : Type} {d : DataW H} {l : List (DataW H)} (h : d ∈ l) : Rows.uptoBulk d ≤ Rows.uptoBulkAll l := by
  induction l with
  | nil => cases h
  | cons x r ih =>
    simp only [Rows.uptoBulkAll]
    cases List.mem_cons.1 h with
    | inl e => subst e; omega
    | inr e => have := ih e; omega
theorem one_le {H : Type} (d : DataW H) : 1 ≤ Rows.uptoBulk d := by
  cases d with
  | lit l => cases l <;> simp [Rows.uptoBulk]
  | nil => simp [Rows.uptoBulk]
  | ptr d => simp [Rows.uptoBulk]
  | slice elems spare => simp [Rows.uptoBulk]
  | agg parts => simp [Rows.uptoBulk]
  | iface t d => simp [Rows.uptoBulk]
  | map entries => simp [Rows.uptoBulk]
  | held h => simp [Rows.uptoBulk]
theorem length_le {H : Type} (l : List (DataW H)) : l.length ≤ Rows.uptoBulkAll l := by
  induction l with
  | nil => simp [Rows.uptoBulkAll]
  | cons x r ih => have := one_le x; simp only [Rows.uptoBulkAll, List.length_cons]; omega
theorem bk {H : Type} : Bk (Rows.uptoBulk (H := H)) :=
  ⟨fun es sp => by have := length_le es; simp only [Rows.uptoBulk]; omega, fun es sp e h => by have := part_le h; simp only [Rows.uptoBulk]; omega, fun ps e h => by have := part_le h; simp only [Rows.uptoBulk]; omega⟩

theorem tRat : RatT Tryz.prog 24 := ⟨⟨_, _, _, _, Tryz.underlying24, rfl, rfl, rfl, by kernel_rfl, by kernel_rfl, by kernel_rfl, by kernel_rfl, Tryz.underlying4, Tryz.underlying22, Tryz.underlying22, by kernel_rfl, by kernel_rfl⟩⟩
theorem tPlc : ArcT Tryz.prog 26 := ⟨⟨_, _, Tryz.underlying26, rfl, rfl, by kernel_rfl, by kernel_rfl, by kernel_rfl, tRat, tRat⟩⟩
theorem tTrn : TnT Tryz.prog 75 := ⟨⟨_, _, Tryz.underlying75, rfl, rfl, by kernel_rfl, by kernel_rfl, by kernel_rfl, tRat, Tryz.underlying4⟩⟩
theorem tPse : PsT Tryz.prog 77 := ⟨⟨_, _, Tryz.underlying77, rfl, rfl, by kernel_rfl, by kernel_rfl, by kernel_rfl, tTrn, tPlc⟩⟩
theorem tPses : PosesT Tryz.prog 79 := ⟨⟨77, Tryz.underlying79, by kernel_rfl, tPse⟩⟩
theorem tCp : CpT Tryz.prog 28 := ⟨⟨_, _, _, _, _, _, _, Tryz.underlying28, ⟨rfl, rfl, rfl, rfl, rfl, rfl, rfl⟩, by kernel_rfl, ⟨by kernel_rfl, by kernel_rfl, by kernel_rfl, by kernel_rfl, by kernel_rfl, by kernel_rfl, by kernel_rfl⟩, tPlc, tPlc, tRat, tRat, tRat, tRat, tRat⟩⟩
theorem tCh : ChT Tryz.prog 89 := ⟨⟨_, _, Tryz.underlying89, rfl, rfl, by kernel_rfl, by kernel_rfl, by kernel_rfl, tPse, tRat⟩⟩

set_option maxRecDepth 100000 in
theorem contract (H : Type) (enc : TypeId × Value → H) (W : World) (base : Nat) (args : Array Value) (ds gs : List (DataW H)) (before : List MemPlace)
    (hval : ∀ (j : Nat) t v, Tryz.f8.params[j]? = some t → args[j]? = some v → Value.okWide Tryz.prog W .any base t v)
    (hW : DataW.Whole enc Tryz.prog Tryz.f8.params.toList Rows.couplerChangesSpec.vars false W args.toList ds gs before) (hk : Rows.uptoSmall H (ds ++ gs) = true) :
    Calls Tryz.prog 8 args W fun e W' => ∃ v, e = .returned v ∧ Rows.couplerChangesSpec.post enc Tryz.prog Tryz.f8 false true false false W args v W' := by
  have hW' := hW
  have hlt := hW.lt
  obtain ⟨p, q, hA0, hV, rfl, hfz, hnd⟩ := hW
  have hA : DataW.TrodAll enc Tryz.prog W 0 (fun _ => true) true Tryz.f8.params.toList args.toList ds p := hA0
  rw [Tryz.params8] at hA hval
  obtain ⟨v0, vs0, d0, ds0, p0, q0, hargs, rfl, rfl, h0, r0⟩ := trodAll_cons hA
  obtain ⟨v1, vs1, d1, ds1, p1, q1, rfl, rfl, rfl, h1, r1⟩ := trodAll_cons r0
  obtain ⟨v2, vs2, d2, ds2, p2, q2, rfl, rfl, rfl, h2, r2⟩ := trodAll_cons r1
  obtain ⟨rfl, rfl, rfl⟩ := trodAll_nil r2
  obtain rfl : args = #[v0, v1, v2] := by cases args; simp_all
  obtain ⟨rfl, rfl⟩ := trodVars_none hV
  clear hA0
  have hb : Rows.uptoBulkAll ([d0, d1, d2] ++ []) ≤ 1048576 := of_decide_eq_true hk
  have y0 : Value.okWide Tryz.prog W .any base 28 v0 := hval 0 28 v0 rfl rfl
  have z0 := ka2 (enc := enc) (w := W) (P := Tryz.prog) (bulk := Rows.uptoBulk) bk tCp
  obtain ⟨a0, o0, g0⟩ := vH (bulk := Rows.uptoBulk) Tryz.underlying28 y0 h0 z0
  have b0 : Rows.uptoBulk d0 ≤ 1048576 := Nat.le_trans (part_le (l := [d0, d1, d2] ++ []) (by simp)) hb
  have y1 : Value.okWide Tryz.prog W .any base 77 v1 := hval 1 77 v1 rfl rfl
  have z1 := Za1 (enc := enc) (w := W) (P := Tryz.prog) (bulk := Rows.uptoBulk) bk tPse
  obtain ⟨a1, o1, g1⟩ := vH (bulk := Rows.uptoBulk) Tryz.underlying77 y1 h1 z1
  have b1 : Rows.uptoBulk d1 ≤ 1048576 := Nat.le_trans (part_le (l := [d0, d1, d2] ++ []) (by simp)) hb
  have y2 : Value.okWide Tryz.prog W .any base 24 v2 := hval 2 24 v2 rfl rfl
  have z2 := Ym (enc := enc) (w := W) (P := Tryz.prog) (bulk := Rows.uptoBulk) bk tRat
  obtain ⟨a2, o2, g2⟩ := vH (bulk := Rows.uptoBulk) Tryz.underlying24 y2 h2 z2
  have b2 : Rows.uptoBulk d2 ≤ 1048576 := Nat.le_trans (part_le (l := [d0, d1, d2] ++ []) (by simp)) hb
  refine (qaJ hold (rfl : Gl L169 8 = .dat true Xf) (RAs.cons g0 (RAs.cons g1 (RAs.cons g2 RAs.nil))) ?_ ⟨a0, rfl, o0.1, a1, rfl, o1.1, a2, rfl, o2.2, Nat.le_trans o0.2 b0, Nat.le_trans o1.2 b1, Nat.le_trans o2.1 b2, rfl⟩).mono fun e W' ⟨he, hbl, hfr⟩ => ?_
  · intro a ha
    simp only [List.mem_cons, List.not_mem_nil, or_false] at ha
    rcases ha with rfl | rfl | rfl
    · exact qaL a0
    · exact kal a1
    · exact QQ a2
  subst he
  exact ⟨_, rfl, post_of_same (pa := p0 ++ (p1 ++ (p2 ++ []))) (pv := []) hW' (fun _ _ _ => trodAll_cons_mk (shut_bool Tryz.underlying4 _) trodAll_mk0) (fun sp hsp => (trodAll_cons_mk (Go.WideElems.Trod_stays laid (by kernel_rfl) (of_decide_eq_true (by kernel_rfl)) h0 (fun x hx => hbl.same (hlt x (by simp [hx]))) (fun x hx => hsp x (by simp [hx]))) (trodAll_cons_mk (Go.WideElems.Trod_stays laid (by kernel_rfl) (of_decide_eq_true (by kernel_rfl)) h1 (fun x hx => hbl.same (hlt x (by simp [hx]))) (fun x hx => hsp x (by simp [hx]))) (trodAll_cons_mk (Go.WideElems.Trod_stays laid (by kernel_rfl) (of_decide_eq_true (by kernel_rfl)) h2 (fun x hx => hbl.same (hlt x (by simp [hx]))) (fun x hx => hsp x (by simp [hx]))) trodAll_mk0)))) (fun _ _ => rfl) rfl
    (hbl.frame _) hfr (ok_one (by kernel_rfl) rfl (okWide_bool_mk Tryz.underlying4 _))⟩

set_option maxRecDepth 100000 in
theorem lifted (os : Os) (started : os.Started) (H : Type) (enc : TypeId × Value → H) (F : Stop.Interp) :
    ReturnsInHanded {} Tryz.checked os 8 .any ((Rows.OpenSpec.upto Rows.couplerChangesSpec).pre6 enc Tryz.prog Tryz.f8 Rows.couplerChangesUptoRow.domain false) (((Rows.OpenSpec.upto Rows.couplerChangesSpec).at F).post enc Tryz.prog Tryz.f8 false true false false) := by
  refine returnsInHanded_of_cond (C := Tryz.checked) (s := Rows.OpenSpec.upto Rows.couplerChangesSpec) (k := Rows.uptoSmall) rfl own started (by kernel_rfl) Tryz.func8
    (OpenSpec.witness (enc := enc) (C := Tryz.checked) (s := Rows.OpenSpec.upto Rows.couplerChangesSpec) (k := Rows.uptoSmall) rfl false ⟨#[], #[.agg #[.bool false, .slice none 0 0, .slice none 0 0, .bool false, .slice none 0 0, .slice none 0 0, .bool false, .slice none 0 0, .slice none 0 0, .bool false, .slice none 0 0, .slice none 0 0, .bool false, .slice none 0 0, .slice none 0 0, .bool false, .slice none 0 0, .slice none 0 0, .bool false, .slice none 0 0, .slice none 0 0, .bool false, .slice none 0 0, .slice none 0 0, .bool false, .slice none 0 0, .slice none 0 0], .agg #[.bool false, .slice none 0 0, .slice none 0 0, .bool false, .bool false, .slice none 0 0, .slice none 0 0, .bool false, .slice none 0 0, .slice none 0 0], .agg #[.bool false, .slice none 0 0, .slice none 0 0]], []⟩ 8 (by kernel_rfl) (by kernel_rfl) (by kernel_rfl)
      (x := ([.agg [.agg [.agg [.lit (.bool false), .nil, .nil], .agg [.lit (.bool false), .nil, .nil]], .agg [.agg [.lit (.bool false), .nil, .nil], .agg [.lit (.bool false), .nil, .nil]], .agg [.lit (.bool false), .nil, .nil], .agg [.lit (.bool false), .nil, .nil], .agg [.lit (.bool false), .nil, .nil], .agg [.lit (.bool false), .nil, .nil], .agg [.lit (.bool false), .nil, .nil]], .agg [.agg [.agg [.lit (.bool false), .nil, .nil], .lit (.bool false)], .agg [.agg [.lit (.bool false), .nil, .nil], .agg [.lit (.bool false), .nil, .nil]]], .agg [.lit (.bool false), .nil, .nil]], [], [])) (by kernel_rfl) rfl (by kernel_rfl)) ?_
  intro W base args ds gs before hval hW _ hk _
  exact contract H enc W base args ds gs before hval hW hk

theorem over : Rows.couplerChangesUptoRow.holds Tryz.pinned (Rows.OpenSpec.upto Rows.couplerChangesSpec) :=
  OpenClaim.holds_of_cond 8 Tryz.f8 rfl rfl rfl rfl rfl rfl rfl ⟨rfl, rfl, rfl, rfl, rfl⟩ rfl rfl rfl rfl rfl (by kernel_rfl) Tryz.func8 (by kernel_rfl)
    (of_decide_eq_true (by kernel_rfl)) (by unfold Func.isWrapper; first | (rw [if_pos (by decide +kernel)]; kernel_rfl) | (rw [if_neg (by decide +kernel)]; exact ⟨rfl, rfl⟩))
    (fun os started H enc _ F => lifted os started H enc F)

theorem proved : Rows.CouplerChangesUptoSaid := over
end Go.Proofs.YtkcleifemnineaaGreat.couplerChanges
