/-
  No cell of these rows narrows 'for every input' (looked for: loops, veiled, ifaces, maps, wideKeys, modest, calm, conditions, laid).
  DERIVED. THE GIVEN ROWS OF THIS SEAT. 7 by the template 'for every input the law returns true; each argument reads behind the call as it read before'; 0 by the template 'total and deterministic' (their statements: YtmhnmddljmllpaaGreatTotals.lean).
  GIVEN WITH THE SEED: the statements are not yours to turn. If you find one false, say at which input.
  Laid BY PROGRAM, IN A SANDBOX (cutbox-rows.mjs): the forced cells as the released guide's own fill.sh prints them over the translation 423b98ad562ce542… (all of the seat's roots in one cut). By AI agents, Wed Nov 11 2026. No macro, syntax, notation, axiom, sorry.
-/
import Derived.Test.YtmhnmddljmllpaaGreatChecked
import GoSem.Claim
import GoSem.ClaimJoined
import GoSem.ClaimMapViews
import Derived.JoinedTies
import Derived.KernelRfl
namespace Go.Proofs.YtmhnmddljmllpaaGreat
/- THE CELL 'sum', in the pinned program and in every row, IS THE sha256 OF THE DUMP (.gsa) THAT YtmhnmddljmllpaaGreatProg.lean LOADS. Nothing in Lean hashes anything: it is a label: what it is worth is what the hold of that sum in a sandbox is worth. -/
noncomputable def Tryz.pinned : Pinned := { name := "ytmhnmddljmllpaagreat", sum := "423b98ad562ce5422fe45631d28ebf42c0885fe80dc92235ec253f3e7e2444eb", checked := Tryz.checked }
namespace Rows
def none {H : Type} : Left H := { results := [], args := [] }

/-- 'linkworklaw54.ChartNorms': WHATEVER THE INPUT: true; the input reads as it did. -/
def chartNormsSpec : ChangeSpec := { name := "chartNorms", fn := fun _ => fun
  | [d1, d2] => { results := [.lit (.bool true)], args := [d1, d2] }
  | _ => none }
def chartNormsRow : OpenClaim := { program := "ytmhnmddljmllpaagreat", sum := "423b98ad562ce5422fe45631d28ebf42c0885fe80dc92235ec253f3e7e2444eb", func := "linkwork/linkworklaw54.ChartNorms", spec := "chartNorms", unfollowed := true, recurses := true, apart := false }
def ChartNormsSaid : Prop := chartNormsRow.holds Tryz.pinned (OpenSpec.ofChange chartNormsSpec)

/-- ITS FALSE NEIGHBOUR: 'it returns false'. Refute it at one input. -/
def chartNormsWrong : ChangeSpec := { name := "chartNorms", fn := fun _ => fun
  | [d1, d2] => { results := [.lit (.bool false)], args := [d1, d2] }
  | _ => none }
def ChartNormsWrongFalsely : Prop := chartNormsRow.holds Tryz.pinned (OpenSpec.ofChange chartNormsWrong)

/-- 'linkworklaw54.ChartReads': WHATEVER THE INPUT: true; the input reads as it did. -/
def chartReadsSpec : ChangeSpec := { name := "chartReads", fn := fun _ => fun
  | [d1, d2] => { results := [.lit (.bool true)], args := [d1, d2] }
  | _ => none }
def chartReadsRow : OpenClaim := { program := "ytmhnmddljmllpaagreat", sum := "423b98ad562ce5422fe45631d28ebf42c0885fe80dc92235ec253f3e7e2444eb", func := "linkwork/linkworklaw54.ChartReads", spec := "chartReads", unfollowed := true, recurses := true, apart := false }
def ChartReadsSaid : Prop := chartReadsRow.holds Tryz.pinned (OpenSpec.ofChange chartReadsSpec)

/-- ITS FALSE NEIGHBOUR: 'it returns false'. Refute it at one input. -/
def chartReadsWrong : ChangeSpec := { name := "chartReads", fn := fun _ => fun
  | [d1, d2] => { results := [.lit (.bool false)], args := [d1, d2] }
  | _ => none }
def ChartReadsWrongFalsely : Prop := chartReadsRow.holds Tryz.pinned (OpenSpec.ofChange chartReadsWrong)

/-- 'linkworklaw54.ChartCombines': WHATEVER THE INPUT: true; the input reads as it did. -/
def chartCombinesSpec : ChangeSpec := { name := "chartCombines", fn := fun _ => fun
  | [d1, d2] => { results := [.lit (.bool true)], args := [d1, d2] }
  | _ => none }
def chartCombinesRow : OpenClaim := { program := "ytmhnmddljmllpaagreat", sum := "423b98ad562ce5422fe45631d28ebf42c0885fe80dc92235ec253f3e7e2444eb", func := "linkwork/linkworklaw54.ChartCombines", spec := "chartCombines", unfollowed := true, recurses := true, apart := false }
def ChartCombinesSaid : Prop := chartCombinesRow.holds Tryz.pinned (OpenSpec.ofChange chartCombinesSpec)

/-- ITS FALSE NEIGHBOUR: 'it returns false'. Refute it at one input. -/
def chartCombinesWrong : ChangeSpec := { name := "chartCombines", fn := fun _ => fun
  | [d1, d2] => { results := [.lit (.bool false)], args := [d1, d2] }
  | _ => none }
def ChartCombinesWrongFalsely : Prop := chartCombinesRow.holds Tryz.pinned (OpenSpec.ofChange chartCombinesWrong)

/-- 'linkworklaw54.ChartLengths': WHATEVER THE INPUT: true; the input reads as it did. -/
def chartLengthsSpec : ChangeSpec := { name := "chartLengths", fn := fun _ => fun
  | [d1, d2, d3] => { results := [.lit (.bool true)], args := [d1, d2, d3] }
  | _ => none }
def chartLengthsRow : OpenClaim := { program := "ytmhnmddljmllpaagreat", sum := "423b98ad562ce5422fe45631d28ebf42c0885fe80dc92235ec253f3e7e2444eb", func := "linkwork/linkworklaw54.ChartLengths", spec := "chartLengths", unfollowed := true, recurses := true, apart := false }
def ChartLengthsSaid : Prop := chartLengthsRow.holds Tryz.pinned (OpenSpec.ofChange chartLengthsSpec)

/-- ITS FALSE NEIGHBOUR: 'it returns false'. Refute it at one input. -/
def chartLengthsWrong : ChangeSpec := { name := "chartLengths", fn := fun _ => fun
  | [d1, d2, d3] => { results := [.lit (.bool false)], args := [d1, d2, d3] }
  | _ => none }
def ChartLengthsWrongFalsely : Prop := chartLengthsRow.holds Tryz.pinned (OpenSpec.ofChange chartLengthsWrong)

/-- 'linkworklaw54.ChartHas': WHATEVER THE INPUT: true; the input reads as it did. -/
def chartHasSpec : ChangeSpec := { name := "chartHas", fn := fun _ => fun
  | [d1, d2, d3] => { results := [.lit (.bool true)], args := [d1, d2, d3] }
  | _ => none }
def chartHasRow : OpenClaim := { program := "ytmhnmddljmllpaagreat", sum := "423b98ad562ce5422fe45631d28ebf42c0885fe80dc92235ec253f3e7e2444eb", func := "linkwork/linkworklaw54.ChartHas", spec := "chartHas", unfollowed := true, recurses := true, apart := false }
def ChartHasSaid : Prop := chartHasRow.holds Tryz.pinned (OpenSpec.ofChange chartHasSpec)

/-- ITS FALSE NEIGHBOUR: 'it returns false'. Refute it at one input. -/
def chartHasWrong : ChangeSpec := { name := "chartHas", fn := fun _ => fun
  | [d1, d2, d3] => { results := [.lit (.bool false)], args := [d1, d2, d3] }
  | _ => none }
def ChartHasWrongFalsely : Prop := chartHasRow.holds Tryz.pinned (OpenSpec.ofChange chartHasWrong)

/-- 'linkworklaw54.ChartTracks': WHATEVER THE INPUT: true; the input reads as it did. -/
def chartTracksSpec : ChangeSpec := { name := "chartTracks", fn := fun _ => fun
  | [d] => { results := [.lit (.bool true)], args := [d] }
  | _ => none }
def chartTracksRow : OpenClaim := { program := "ytmhnmddljmllpaagreat", sum := "423b98ad562ce5422fe45631d28ebf42c0885fe80dc92235ec253f3e7e2444eb", func := "linkwork/linkworklaw54.ChartTracks", spec := "chartTracks", unfollowed := true, recurses := true, apart := false }
def ChartTracksSaid : Prop := chartTracksRow.holds Tryz.pinned (OpenSpec.ofChange chartTracksSpec)

/-- ITS FALSE NEIGHBOUR: 'it returns false'. Refute it at one input. -/
def chartTracksWrong : ChangeSpec := { name := "chartTracks", fn := fun _ => fun
  | [d] => { results := [.lit (.bool false)], args := [d] }
  | _ => none }
def ChartTracksWrongFalsely : Prop := chartTracksRow.holds Tryz.pinned (OpenSpec.ofChange chartTracksWrong)

/-- 'linkworklaw54.ChartFree': WHATEVER THE INPUT: true; the input reads as it did. -/
def chartFreeSpec : ChangeSpec := { name := "chartFree", fn := fun _ => fun
  | [d1, d2] => { results := [.lit (.bool true)], args := [d1, d2] }
  | _ => none }
def chartFreeRow : OpenClaim := { program := "ytmhnmddljmllpaagreat", sum := "423b98ad562ce5422fe45631d28ebf42c0885fe80dc92235ec253f3e7e2444eb", func := "linkwork/linkworklaw54.ChartFree", spec := "chartFree", unfollowed := true, recurses := true, apart := false }
def ChartFreeSaid : Prop := chartFreeRow.holds Tryz.pinned (OpenSpec.ofChange chartFreeSpec)

/-- ITS FALSE NEIGHBOUR: 'it returns false'. Refute it at one input. -/
def chartFreeWrong : ChangeSpec := { name := "chartFree", fn := fun _ => fun
  | [d1, d2] => { results := [.lit (.bool false)], args := [d1, d2] }
  | _ => none }
def ChartFreeWrongFalsely : Prop := chartFreeRow.holds Tryz.pinned (OpenSpec.ofChange chartFreeWrong)

/- THE SECOND FORM. 'bulk': how many values and letters a reading holds, each counted each time it is reached (what is shared counts as often as it is met; a slice's spare places count too). A statement '..UptoSaid' is the law's where the arguments, and the package variables that the reading takes, are together of bulk at most 1048576: NARROWER than '..Said'. Prove '..Said' where nothing that the law and all that it calls make is longer than what came in: it says more and counts as full. Else prove '..UptoSaid'. A law counts once. -/
mutual
def uptoBulk {H : Type} : DataW H → Nat
  | .lit (.string bytes) => bytes.length + 1
  | .lit _ => 1
  | .nil => 1
  | .ptr d => uptoBulk d + 1
  | .slice elems spare => uptoBulkAll elems + uptoBulkAll spare + 1
  | .agg parts => uptoBulkAll parts + 1
  | .iface _ d => uptoBulk d + 1
  | .map entries => uptoBulkEntries entries + 1
  | .held _ => 1
def uptoBulkAll {H : Type} : List (DataW H) → Nat
  | [] => 0
  | d :: r => uptoBulk d + uptoBulkAll r
def uptoBulkEntries {H : Type} : List (Lit × DataW H) → Nat
  | [] => 0
  | x :: r => uptoBulkEntry x + uptoBulkEntries r
def uptoBulkEntry {H : Type} : Lit × DataW H → Nat
  | (.string bytes, d) => bytes.length + uptoBulk d + 1
  | (_, d) => uptoBulk d + 1
 end
def uptoSmall : (H : Type) → List (DataW H) → Bool := fun _ ds => decide (uptoBulkAll ds ≤ 1048576)
def OpenSpec.upto (s : _root_.Go.ChangeSpec) : _root_.Go.OpenSpec := { _root_.Go.OpenSpec.ofChange s with cond := some uptoSmall }

/-- 'linkworklaw54.ChartNorms', WHERE WHAT IT READS IS OF BULK AT MOST 1048576: true; the input reads as it did. -/
def chartNormsUptoRow : OpenClaim := { program := "ytmhnmddljmllpaagreat", sum := "423b98ad562ce5422fe45631d28ebf42c0885fe80dc92235ec253f3e7e2444eb", func := "linkwork/linkworklaw54.ChartNorms", spec := "chartNorms", unfollowed := true, recurses := true, apart := false, narrowed := true }
def ChartNormsUptoSaid : Prop := chartNormsUptoRow.holds Tryz.pinned (OpenSpec.upto chartNormsSpec)

/-- 'linkworklaw54.ChartReads', WHERE WHAT IT READS IS OF BULK AT MOST 1048576: true; the input reads as it did. -/
def chartReadsUptoRow : OpenClaim := { program := "ytmhnmddljmllpaagreat", sum := "423b98ad562ce5422fe45631d28ebf42c0885fe80dc92235ec253f3e7e2444eb", func := "linkwork/linkworklaw54.ChartReads", spec := "chartReads", unfollowed := true, recurses := true, apart := false, narrowed := true }
def ChartReadsUptoSaid : Prop := chartReadsUptoRow.holds Tryz.pinned (OpenSpec.upto chartReadsSpec)

/-- 'linkworklaw54.ChartCombines', WHERE WHAT IT READS IS OF BULK AT MOST 1048576: true; the input reads as it did. -/
def chartCombinesUptoRow : OpenClaim := { program := "ytmhnmddljmllpaagreat", sum := "423b98ad562ce5422fe45631d28ebf42c0885fe80dc92235ec253f3e7e2444eb", func := "linkwork/linkworklaw54.ChartCombines", spec := "chartCombines", unfollowed := true, recurses := true, apart := false, narrowed := true }
def ChartCombinesUptoSaid : Prop := chartCombinesUptoRow.holds Tryz.pinned (OpenSpec.upto chartCombinesSpec)

/-- 'linkworklaw54.ChartLengths', WHERE WHAT IT READS IS OF BULK AT MOST 1048576: true; the input reads as it did. -/
def chartLengthsUptoRow : OpenClaim := { program := "ytmhnmddljmllpaagreat", sum := "423b98ad562ce5422fe45631d28ebf42c0885fe80dc92235ec253f3e7e2444eb", func := "linkwork/linkworklaw54.ChartLengths", spec := "chartLengths", unfollowed := true, recurses := true, apart := false, narrowed := true }
def ChartLengthsUptoSaid : Prop := chartLengthsUptoRow.holds Tryz.pinned (OpenSpec.upto chartLengthsSpec)

/-- 'linkworklaw54.ChartHas', WHERE WHAT IT READS IS OF BULK AT MOST 1048576: true; the input reads as it did. -/
def chartHasUptoRow : OpenClaim := { program := "ytmhnmddljmllpaagreat", sum := "423b98ad562ce5422fe45631d28ebf42c0885fe80dc92235ec253f3e7e2444eb", func := "linkwork/linkworklaw54.ChartHas", spec := "chartHas", unfollowed := true, recurses := true, apart := false, narrowed := true }
def ChartHasUptoSaid : Prop := chartHasUptoRow.holds Tryz.pinned (OpenSpec.upto chartHasSpec)

/-- 'linkworklaw54.ChartTracks', WHERE WHAT IT READS IS OF BULK AT MOST 1048576: true; the input reads as it did. -/
def chartTracksUptoRow : OpenClaim := { program := "ytmhnmddljmllpaagreat", sum := "423b98ad562ce5422fe45631d28ebf42c0885fe80dc92235ec253f3e7e2444eb", func := "linkwork/linkworklaw54.ChartTracks", spec := "chartTracks", unfollowed := true, recurses := true, apart := false, narrowed := true }
def ChartTracksUptoSaid : Prop := chartTracksUptoRow.holds Tryz.pinned (OpenSpec.upto chartTracksSpec)

/-- 'linkworklaw54.ChartFree', WHERE WHAT IT READS IS OF BULK AT MOST 1048576: true; the input reads as it did. -/
def chartFreeUptoRow : OpenClaim := { program := "ytmhnmddljmllpaagreat", sum := "423b98ad562ce5422fe45631d28ebf42c0885fe80dc92235ec253f3e7e2444eb", func := "linkwork/linkworklaw54.ChartFree", spec := "chartFree", unfollowed := true, recurses := true, apart := false, narrowed := true }
def ChartFreeUptoSaid : Prop := chartFreeUptoRow.holds Tryz.pinned (OpenSpec.upto chartFreeSpec)

end Rows
end Go.Proofs.YtmhnmddljmllpaaGreat
