/-
  No cell of these rows narrows 'for every input' (looked for: loops, veiled, ifaces, maps, wideKeys, modest, calm, conditions, laid).
  DERIVED. THE GIVEN ROWS OF THIS SEAT. 7 by the template 'for every input the law returns true; each argument reads behind the call as it read before'; 0 by the template 'total and deterministic' (their statements: YtkcleifemnineaaGreatTotals.lean).
  GIVEN WITH THE SEED: the statements are not yours to turn. If you find one false, say at which input.
  Laid BY PROGRAM, IN A SANDBOX (cutbox-rows.mjs): the forced cells as the released guide's own fill.sh prints them over the translation d11e653d173722b1… (all of the seat's roots in one cut). By AI agents, Wed Nov 11 2026. No macro, syntax, notation, axiom, sorry.
-/
import Derived.Test.YtkcleifemnineaaGreatChecked
import GoSem.Claim
import GoSem.ClaimJoined
import GoSem.ClaimMapViews
import Derived.JoinedTies
import Derived.KernelRfl
namespace Go.Proofs.YtkcleifemnineaaGreat
/- THE CELL 'sum', in the pinned program and in every row, IS THE sha256 OF THE DUMP (.gsa) THAT YtkcleifemnineaaGreatProg.lean LOADS. Nothing in Lean hashes anything: it is a label: what it is worth is what the hold of that sum in a sandbox is worth. -/
noncomputable def Tryz.pinned : Pinned := { name := "ytkcleifemnineaagreat", sum := "d11e653d173722b1ecf5afe45db45fe1a64d0147cbf701fea547b3c8a2af6c2f", checked := Tryz.checked }
namespace Rows
def none {H : Type} : Left H := { results := [], args := [] }

/-- 'linkworklaw38.CouplerDegree': WHATEVER THE INPUT: true; the input reads as it did. -/
def couplerDegreeSpec : ChangeSpec := { name := "couplerDegree", fn := fun _ => fun
  | [d] => { results := [.lit (.bool true)], args := [d] }
  | _ => none }
def couplerDegreeRow : OpenClaim := { program := "ytkcleifemnineaagreat", sum := "d11e653d173722b1ecf5afe45db45fe1a64d0147cbf701fea547b3c8a2af6c2f", func := "linkwork/linkworklaw38.CouplerDegree", spec := "couplerDegree", unfollowed := true, recurses := true, apart := false }
def CouplerDegreeSaid : Prop := couplerDegreeRow.holds Tryz.pinned (OpenSpec.ofChange couplerDegreeSpec)

/-- ITS FALSE NEIGHBOUR: 'it returns false'. Refute it at one input. -/
def couplerDegreeWrong : ChangeSpec := { name := "couplerDegree", fn := fun _ => fun
  | [d] => { results := [.lit (.bool false)], args := [d] }
  | _ => none }
def CouplerDegreeWrongFalsely : Prop := couplerDegreeRow.holds Tryz.pinned (OpenSpec.ofChange couplerDegreeWrong)

/-- 'linkworklaw38.CouplerCurves': WHATEVER THE INPUT: true; the input reads as it did. -/
def couplerCurvesSpec : ChangeSpec := { name := "couplerCurves", fn := fun _ => fun
  | [d] => { results := [.lit (.bool true)], args := [d] }
  | _ => none }
def couplerCurvesRow : OpenClaim := { program := "ytkcleifemnineaagreat", sum := "d11e653d173722b1ecf5afe45db45fe1a64d0147cbf701fea547b3c8a2af6c2f", func := "linkwork/linkworklaw38.CouplerCurves", spec := "couplerCurves", unfollowed := true, recurses := true, apart := false }
def CouplerCurvesSaid : Prop := couplerCurvesRow.holds Tryz.pinned (OpenSpec.ofChange couplerCurvesSpec)

/-- ITS FALSE NEIGHBOUR: 'it returns false'. Refute it at one input. -/
def couplerCurvesWrong : ChangeSpec := { name := "couplerCurves", fn := fun _ => fun
  | [d] => { results := [.lit (.bool false)], args := [d] }
  | _ => none }
def CouplerCurvesWrongFalsely : Prop := couplerCurvesRow.holds Tryz.pinned (OpenSpec.ofChange couplerCurvesWrong)

/-- 'linkworklaw38.CouplerPlaces': WHATEVER THE INPUT: true; the input reads as it did. -/
def couplerPlacesSpec : ChangeSpec := { name := "couplerPlaces", fn := fun _ => fun
  | [d1, d2, d3] => { results := [.lit (.bool true)], args := [d1, d2, d3] }
  | _ => none }
def couplerPlacesRow : OpenClaim := { program := "ytkcleifemnineaagreat", sum := "d11e653d173722b1ecf5afe45db45fe1a64d0147cbf701fea547b3c8a2af6c2f", func := "linkwork/linkworklaw38.CouplerPlaces", spec := "couplerPlaces", unfollowed := true, recurses := true, apart := false }
def CouplerPlacesSaid : Prop := couplerPlacesRow.holds Tryz.pinned (OpenSpec.ofChange couplerPlacesSpec)

/-- ITS FALSE NEIGHBOUR: 'it returns false'. Refute it at one input. -/
def couplerPlacesWrong : ChangeSpec := { name := "couplerPlaces", fn := fun _ => fun
  | [d1, d2, d3] => { results := [.lit (.bool false)], args := [d1, d2, d3] }
  | _ => none }
def CouplerPlacesWrongFalsely : Prop := couplerPlacesRow.holds Tryz.pinned (OpenSpec.ofChange couplerPlacesWrong)

/-- 'linkworklaw38.CouplerLifts': WHATEVER THE INPUT: true; the input reads as it did. -/
def couplerLiftsSpec : ChangeSpec := { name := "couplerLifts", fn := fun _ => fun
  | [d1, d2] => { results := [.lit (.bool true)], args := [d1, d2] }
  | _ => none }
def couplerLiftsRow : OpenClaim := { program := "ytkcleifemnineaagreat", sum := "d11e653d173722b1ecf5afe45db45fe1a64d0147cbf701fea547b3c8a2af6c2f", func := "linkwork/linkworklaw38.CouplerLifts", spec := "couplerLifts", unfollowed := true, recurses := true, apart := false }
def CouplerLiftsSaid : Prop := couplerLiftsRow.holds Tryz.pinned (OpenSpec.ofChange couplerLiftsSpec)

/-- ITS FALSE NEIGHBOUR: 'it returns false'. Refute it at one input. -/
def couplerLiftsWrong : ChangeSpec := { name := "couplerLifts", fn := fun _ => fun
  | [d1, d2] => { results := [.lit (.bool false)], args := [d1, d2] }
  | _ => none }
def CouplerLiftsWrongFalsely : Prop := couplerLiftsRow.holds Tryz.pinned (OpenSpec.ofChange couplerLiftsWrong)

/-- 'linkworklaw38.CouplerPoints': WHATEVER THE INPUT: true; the input reads as it did. -/
def couplerPointsSpec : ChangeSpec := { name := "couplerPoints", fn := fun _ => fun
  | [d1, d2, d3] => { results := [.lit (.bool true)], args := [d1, d2, d3] }
  | _ => none }
def couplerPointsRow : OpenClaim := { program := "ytkcleifemnineaagreat", sum := "d11e653d173722b1ecf5afe45db45fe1a64d0147cbf701fea547b3c8a2af6c2f", func := "linkwork/linkworklaw38.CouplerPoints", spec := "couplerPoints", unfollowed := true, recurses := true, apart := false }
def CouplerPointsSaid : Prop := couplerPointsRow.holds Tryz.pinned (OpenSpec.ofChange couplerPointsSpec)

/-- ITS FALSE NEIGHBOUR: 'it returns false'. Refute it at one input. -/
def couplerPointsWrong : ChangeSpec := { name := "couplerPoints", fn := fun _ => fun
  | [d1, d2, d3] => { results := [.lit (.bool false)], args := [d1, d2, d3] }
  | _ => none }
def CouplerPointsWrongFalsely : Prop := couplerPointsRow.holds Tryz.pinned (OpenSpec.ofChange couplerPointsWrong)

/-- 'linkworklaw38.CouplerChanges': WHATEVER THE INPUT: true; the input reads as it did. -/
def couplerChangesSpec : ChangeSpec := { name := "couplerChanges", fn := fun _ => fun
  | [d1, d2, d3] => { results := [.lit (.bool true)], args := [d1, d2, d3] }
  | _ => none }
def couplerChangesRow : OpenClaim := { program := "ytkcleifemnineaagreat", sum := "d11e653d173722b1ecf5afe45db45fe1a64d0147cbf701fea547b3c8a2af6c2f", func := "linkwork/linkworklaw38.CouplerChanges", spec := "couplerChanges", unfollowed := true, recurses := true, apart := false }
def CouplerChangesSaid : Prop := couplerChangesRow.holds Tryz.pinned (OpenSpec.ofChange couplerChangesSpec)

/-- ITS FALSE NEIGHBOUR: 'it returns false'. Refute it at one input. -/
def couplerChangesWrong : ChangeSpec := { name := "couplerChanges", fn := fun _ => fun
  | [d1, d2, d3] => { results := [.lit (.bool false)], args := [d1, d2, d3] }
  | _ => none }
def CouplerChangesWrongFalsely : Prop := couplerChangesRow.holds Tryz.pinned (OpenSpec.ofChange couplerChangesWrong)

/-- 'linkworklaw38.CouplerMoves': WHATEVER THE INPUT: true; the input reads as it did. -/
def couplerMovesSpec : ChangeSpec := { name := "couplerMoves", fn := fun _ => fun
  | [d1, d2, d3] => { results := [.lit (.bool true)], args := [d1, d2, d3] }
  | _ => none }
def couplerMovesRow : OpenClaim := { program := "ytkcleifemnineaagreat", sum := "d11e653d173722b1ecf5afe45db45fe1a64d0147cbf701fea547b3c8a2af6c2f", func := "linkwork/linkworklaw38.CouplerMoves", spec := "couplerMoves", unfollowed := true, recurses := true, apart := false }
def CouplerMovesSaid : Prop := couplerMovesRow.holds Tryz.pinned (OpenSpec.ofChange couplerMovesSpec)

/-- ITS FALSE NEIGHBOUR: 'it returns false'. Refute it at one input. -/
def couplerMovesWrong : ChangeSpec := { name := "couplerMoves", fn := fun _ => fun
  | [d1, d2, d3] => { results := [.lit (.bool false)], args := [d1, d2, d3] }
  | _ => none }
def CouplerMovesWrongFalsely : Prop := couplerMovesRow.holds Tryz.pinned (OpenSpec.ofChange couplerMovesWrong)

/- THE SECOND FORM. 'bulk': how many values and letters a reading holds, each counted each time it is reached (what is shared counts as often as it is met; a slice's spare places count too). A statement '..UptoSaid' is the law's where the arguments, and the package variables that the reading takes, are together of bulk at most 1048576: NARROWER than '..Said'. Prove '..Said' where nothing that the law and all that it calls make is longer than what came in: it says more and counts as full. Else prove '..UptoSaid'. A law counts once. -/
mutual
def uptoBulk {H : Type} : DataW H → Nat
  | .lit (.string bytes) => bytes.length + 1
  | .lit _ => 1
  | .nil => 1
  | .ptr d => uptoBulk d + 1
  | .slice elems spare => uptoBulkAll elems + uptoBulkAll spare + 1
  | .agg parts => uptoBulkAll parts + 1
  | .iface _ d => uptoBulk d + 1
  | .map entries => uptoBulkEntries entries + 1
  | .held _ => 1
def uptoBulkAll {H : Type} : List (DataW H) → Nat
  | [] => 0
  | d :: r => uptoBulk d + uptoBulkAll r
def uptoBulkEntries {H : Type} : List (Lit × DataW H) → Nat
  | [] => 0
  | x :: r => uptoBulkEntry x + uptoBulkEntries r
def uptoBulkEntry {H : Type} : Lit × DataW H → Nat
  | (.string bytes, d) => bytes.length + uptoBulk d + 1
  | (_, d) => uptoBulk d + 1
 end
def uptoSmall : (H : Type) → List (DataW H) → Bool := fun _ ds => decide (uptoBulkAll ds ≤ 1048576)
def OpenSpec.upto (s : _root_.Go.ChangeSpec) : _root_.Go.OpenSpec := { _root_.Go.OpenSpec.ofChange s with cond := some uptoSmall }

/-- 'linkworklaw38.CouplerDegree', WHERE WHAT IT READS IS OF BULK AT MOST 1048576: true; the input reads as it did. -/
def couplerDegreeUptoRow : OpenClaim := { program := "ytkcleifemnineaagreat", sum := "d11e653d173722b1ecf5afe45db45fe1a64d0147cbf701fea547b3c8a2af6c2f", func := "linkwork/linkworklaw38.CouplerDegree", spec := "couplerDegree", unfollowed := true, recurses := true, apart := false, narrowed := true }
def CouplerDegreeUptoSaid : Prop := couplerDegreeUptoRow.holds Tryz.pinned (OpenSpec.upto couplerDegreeSpec)

/-- 'linkworklaw38.CouplerCurves', WHERE WHAT IT READS IS OF BULK AT MOST 1048576: true; the input reads as it did. -/
def couplerCurvesUptoRow : OpenClaim := { program := "ytkcleifemnineaagreat", sum := "d11e653d173722b1ecf5afe45db45fe1a64d0147cbf701fea547b3c8a2af6c2f", func := "linkwork/linkworklaw38.CouplerCurves", spec := "couplerCurves", unfollowed := true, recurses := true, apart := false, narrowed := true }
def CouplerCurvesUptoSaid : Prop := couplerCurvesUptoRow.holds Tryz.pinned (OpenSpec.upto couplerCurvesSpec)

/-- 'linkworklaw38.CouplerPlaces', WHERE WHAT IT READS IS OF BULK AT MOST 1048576: true; the input reads as it did. -/
def couplerPlacesUptoRow : OpenClaim := { program := "ytkcleifemnineaagreat", sum := "d11e653d173722b1ecf5afe45db45fe1a64d0147cbf701fea547b3c8a2af6c2f", func := "linkwork/linkworklaw38.CouplerPlaces", spec := "couplerPlaces", unfollowed := true, recurses := true, apart := false, narrowed := true }
def CouplerPlacesUptoSaid : Prop := couplerPlacesUptoRow.holds Tryz.pinned (OpenSpec.upto couplerPlacesSpec)

/-- 'linkworklaw38.CouplerLifts', WHERE WHAT IT READS IS OF BULK AT MOST 1048576: true; the input reads as it did. -/
def couplerLiftsUptoRow : OpenClaim := { program := "ytkcleifemnineaagreat", sum := "d11e653d173722b1ecf5afe45db45fe1a64d0147cbf701fea547b3c8a2af6c2f", func := "linkwork/linkworklaw38.CouplerLifts", spec := "couplerLifts", unfollowed := true, recurses := true, apart := false, narrowed := true }
def CouplerLiftsUptoSaid : Prop := couplerLiftsUptoRow.holds Tryz.pinned (OpenSpec.upto couplerLiftsSpec)

/-- 'linkworklaw38.CouplerPoints', WHERE WHAT IT READS IS OF BULK AT MOST 1048576: true; the input reads as it did. -/
def couplerPointsUptoRow : OpenClaim := { program := "ytkcleifemnineaagreat", sum := "d11e653d173722b1ecf5afe45db45fe1a64d0147cbf701fea547b3c8a2af6c2f", func := "linkwork/linkworklaw38.CouplerPoints", spec := "couplerPoints", unfollowed := true, recurses := true, apart := false, narrowed := true }
def CouplerPointsUptoSaid : Prop := couplerPointsUptoRow.holds Tryz.pinned (OpenSpec.upto couplerPointsSpec)

/-- 'linkworklaw38.CouplerChanges', WHERE WHAT IT READS IS OF BULK AT MOST 1048576: true; the input reads as it did. -/
def couplerChangesUptoRow : OpenClaim := { program := "ytkcleifemnineaagreat", sum := "d11e653d173722b1ecf5afe45db45fe1a64d0147cbf701fea547b3c8a2af6c2f", func := "linkwork/linkworklaw38.CouplerChanges", spec := "couplerChanges", unfollowed := true, recurses := true, apart := false, narrowed := true }
def CouplerChangesUptoSaid : Prop := couplerChangesUptoRow.holds Tryz.pinned (OpenSpec.upto couplerChangesSpec)

/-- 'linkworklaw38.CouplerMoves', WHERE WHAT IT READS IS OF BULK AT MOST 1048576: true; the input reads as it did. -/
def couplerMovesUptoRow : OpenClaim := { program := "ytkcleifemnineaagreat", sum := "d11e653d173722b1ecf5afe45db45fe1a64d0147cbf701fea547b3c8a2af6c2f", func := "linkwork/linkworklaw38.CouplerMoves", spec := "couplerMoves", unfollowed := true, recurses := true, apart := false, narrowed := true }
def CouplerMovesUptoSaid : Prop := couplerMovesUptoRow.holds Tryz.pinned (OpenSpec.upto couplerMovesSpec)

end Rows
end Go.Proofs.YtkcleifemnineaaGreat
