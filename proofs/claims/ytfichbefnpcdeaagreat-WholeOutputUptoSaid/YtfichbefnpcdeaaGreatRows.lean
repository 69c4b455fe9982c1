/-
  No cell of these rows narrows 'for every input' (looked for: loops, veiled, ifaces, maps, wideKeys, modest, calm, conditions, laid).
  DERIVED. THE GIVEN ROWS OF THIS SEAT. 4 by the template 'for every input the law returns true; each argument reads behind the call as it read before'; 0 by the template 'total and deterministic' (their statements: YtfichbefnpcdeaaGreatTotals.lean).
  GIVEN WITH THE SEED: the statements are not yours to turn. If you find one false, say at which input.
  Laid BY PROGRAM, IN A SANDBOX (cutbox-rows.mjs): the forced cells as the released guide's own fill.sh prints them over the translation 7a27c12455ba6fe3… (all of the seat's roots in one cut). By AI agents, Wed Nov 11 2026. No macro, syntax, notation, axiom, sorry.
-/
import Derived.Test.YtfichbefnpcdeaaGreatChecked
import GoSem.Claim
import GoSem.ClaimJoined
import GoSem.ClaimMapViews
import Derived.JoinedTies
import Derived.KernelRfl
namespace Go.Proofs.YtfichbefnpcdeaaGreat
/- THE CELL 'sum', in the pinned program and in every row, IS THE sha256 OF THE DUMP (.gsa) THAT YtfichbefnpcdeaaGreatProg.lean LOADS. Nothing in Lean hashes anything: it is a label: what it is worth is what the hold of that sum in a sandbox is worth. -/
noncomputable def Tryz.pinned : Pinned := { name := "ytfichbefnpcdeaagreat", sum := "7a27c12455ba6fe37c41f890b28faaa1f9d45fe5032be91df121b46e8cead058", checked := Tryz.checked }
namespace Rows
def none {H : Type} : Left H := { results := [], args := [] }

/-- 'linkworktop.WholeMirror': WHATEVER THE INPUT: true; the input reads as it did. -/
def wholeMirrorSpec : ChangeSpec := { name := "wholeMirror", fn := fun _ => fun
  | [d1, d2] => { results := [.lit (.bool true)], args := [d1, d2] }
  | _ => none }
def wholeMirrorRow : OpenClaim := { program := "ytfichbefnpcdeaagreat", sum := "7a27c12455ba6fe37c41f890b28faaa1f9d45fe5032be91df121b46e8cead058", func := "linkwork/linkworktop.WholeMirror", spec := "wholeMirror", unfollowed := true, recurses := true, apart := false }
def WholeMirrorSaid : Prop := wholeMirrorRow.holds Tryz.pinned (OpenSpec.ofChange wholeMirrorSpec)

/-- ITS FALSE NEIGHBOUR: 'it returns false'. Refute it at one input. -/
def wholeMirrorWrong : ChangeSpec := { name := "wholeMirror", fn := fun _ => fun
  | [d1, d2] => { results := [.lit (.bool false)], args := [d1, d2] }
  | _ => none }
def WholeMirrorWrongFalsely : Prop := wholeMirrorRow.holds Tryz.pinned (OpenSpec.ofChange wholeMirrorWrong)

/-- 'linkworktop.WholeModes': WHATEVER THE INPUT: true; the input reads as it did. -/
def wholeModesSpec : ChangeSpec := { name := "wholeModes", fn := fun _ => fun
  | [d1, d2] => { results := [.lit (.bool true)], args := [d1, d2] }
  | _ => none }
def wholeModesRow : OpenClaim := { program := "ytfichbefnpcdeaagreat", sum := "7a27c12455ba6fe37c41f890b28faaa1f9d45fe5032be91df121b46e8cead058", func := "linkwork/linkworktop.WholeModes", spec := "wholeModes", unfollowed := true, recurses := true, apart := false }
def WholeModesSaid : Prop := wholeModesRow.holds Tryz.pinned (OpenSpec.ofChange wholeModesSpec)

/-- ITS FALSE NEIGHBOUR: 'it returns false'. Refute it at one input. -/
def wholeModesWrong : ChangeSpec := { name := "wholeModes", fn := fun _ => fun
  | [d1, d2] => { results := [.lit (.bool false)], args := [d1, d2] }
  | _ => none }
def WholeModesWrongFalsely : Prop := wholeModesRow.holds Tryz.pinned (OpenSpec.ofChange wholeModesWrong)

/-- 'linkworktop.WholeOutput': WHATEVER THE INPUT: true; the input reads as it did. -/
def wholeOutputSpec : ChangeSpec := { name := "wholeOutput", fn := fun _ => fun
  | [d1, d2] => { results := [.lit (.bool true)], args := [d1, d2] }
  | _ => none }
def wholeOutputRow : OpenClaim := { program := "ytfichbefnpcdeaagreat", sum := "7a27c12455ba6fe37c41f890b28faaa1f9d45fe5032be91df121b46e8cead058", func := "linkwork/linkworktop.WholeOutput", spec := "wholeOutput", unfollowed := true, recurses := true, apart := false }
def WholeOutputSaid : Prop := wholeOutputRow.holds Tryz.pinned (OpenSpec.ofChange wholeOutputSpec)

/-- ITS FALSE NEIGHBOUR: 'it returns false'. Refute it at one input. -/
def wholeOutputWrong : ChangeSpec := { name := "wholeOutput", fn := fun _ => fun
  | [d1, d2] => { results := [.lit (.bool false)], args := [d1, d2] }
  | _ => none }
def WholeOutputWrongFalsely : Prop := wholeOutputRow.holds Tryz.pinned (OpenSpec.ofChange wholeOutputWrong)

/-- 'linkworktop.WholePoles': WHATEVER THE INPUT: true; the input reads as it did. -/
def wholePolesSpec : ChangeSpec := { name := "wholePoles", fn := fun _ => fun
  | [d1, d2] => { results := [.lit (.bool true)], args := [d1, d2] }
  | _ => none }
def wholePolesRow : OpenClaim := { program := "ytfichbefnpcdeaagreat", sum := "7a27c12455ba6fe37c41f890b28faaa1f9d45fe5032be91df121b46e8cead058", func := "linkwork/linkworktop.WholePoles", spec := "wholePoles", unfollowed := true, recurses := true, apart := false }
def WholePolesSaid : Prop := wholePolesRow.holds Tryz.pinned (OpenSpec.ofChange wholePolesSpec)

/-- ITS FALSE NEIGHBOUR: 'it returns false'. Refute it at one input. -/
def wholePolesWrong : ChangeSpec := { name := "wholePoles", fn := fun _ => fun
  | [d1, d2] => { results := [.lit (.bool false)], args := [d1, d2] }
  | _ => none }
def WholePolesWrongFalsely : Prop := wholePolesRow.holds Tryz.pinned (OpenSpec.ofChange wholePolesWrong)

/- THE SECOND FORM. 'bulk': how many values and letters a reading holds, each counted each time it is reached (what is shared counts as often as it is met; a slice's spare places count too). A statement '..UptoSaid' is the law's where the arguments, and the package variables that the reading takes, are together of bulk at most 1048576: NARROWER than '..Said'. Prove '..Said' where nothing that the law and all that it calls make is longer than what came in: it says more and counts as full. Else prove '..UptoSaid'. A law counts once. -/
mutual
def uptoBulk {H : Type} : DataW H → Nat
  | .lit (.string bytes) => bytes.length + 1
  | .lit _ => 1
  | .nil => 1
  | .ptr d => uptoBulk d + 1
  | .slice elems spare => uptoBulkAll elems + uptoBulkAll spare + 1
  | .agg parts => uptoBulkAll parts + 1
  | .iface _ d => uptoBulk d + 1
  | .map entries => uptoBulkEntries entries + 1
  | .held _ => 1
def uptoBulkAll {H : Type} : List (DataW H) → Nat
  | [] => 0
  | d :: r => uptoBulk d + uptoBulkAll r
def uptoBulkEntries {H : Type} : List (Lit × DataW H) → Nat
  | [] => 0
  | x :: r => uptoBulkEntry x + uptoBulkEntries r
def uptoBulkEntry {H : Type} : Lit × DataW H → Nat
  | (.string bytes, d) => bytes.length + uptoBulk d + 1
  | (_, d) => uptoBulk d + 1
 end
def uptoSmall : (H : Type) → List (DataW H) → Bool := fun _ ds => decide (uptoBulkAll ds ≤ 1048576)
def OpenSpec.upto (s : _root_.Go.ChangeSpec) : _root_.Go.OpenSpec := { _root_.Go.OpenSpec.ofChange s with cond := some uptoSmall }

/-- 'linkworktop.WholeMirror', WHERE WHAT IT READS IS OF BULK AT MOST 1048576: true; the input reads as it did. -/
def wholeMirrorUptoRow : OpenClaim := { program := "ytfichbefnpcdeaagreat", sum := "7a27c12455ba6fe37c41f890b28faaa1f9d45fe5032be91df121b46e8cead058", func := "linkwork/linkworktop.WholeMirror", spec := "wholeMirror", unfollowed := true, recurses := true, apart := false, narrowed := true }
def WholeMirrorUptoSaid : Prop := wholeMirrorUptoRow.holds Tryz.pinned (OpenSpec.upto wholeMirrorSpec)

/-- 'linkworktop.WholeModes', WHERE WHAT IT READS IS OF BULK AT MOST 1048576: true; the input reads as it did. -/
def wholeModesUptoRow : OpenClaim := { program := "ytfichbefnpcdeaagreat", sum := "7a27c12455ba6fe37c41f890b28faaa1f9d45fe5032be91df121b46e8cead058", func := "linkwork/linkworktop.WholeModes", spec := "wholeModes", unfollowed := true, recurses := true, apart := false, narrowed := true }
def WholeModesUptoSaid : Prop := wholeModesUptoRow.holds Tryz.pinned (OpenSpec.upto wholeModesSpec)

/-- 'linkworktop.WholeOutput', WHERE WHAT IT READS IS OF BULK AT MOST 1048576: true; the input reads as it did. -/
def wholeOutputUptoRow : OpenClaim := { program := "ytfichbefnpcdeaagreat", sum := "7a27c12455ba6fe37c41f890b28faaa1f9d45fe5032be91df121b46e8cead058", func := "linkwork/linkworktop.WholeOutput", spec := "wholeOutput", unfollowed := true, recurses := true, apart := false, narrowed := true }
def WholeOutputUptoSaid : Prop := wholeOutputUptoRow.holds Tryz.pinned (OpenSpec.upto wholeOutputSpec)

/-- 'linkworktop.WholePoles', WHERE WHAT IT READS IS OF BULK AT MOST 1048576: true; the input reads as it did. -/
def wholePolesUptoRow : OpenClaim := { program := "ytfichbefnpcdeaagreat", sum := "7a27c12455ba6fe37c41f890b28faaa1f9d45fe5032be91df121b46e8cead058", func := "linkwork/linkworktop.WholePoles", spec := "wholePoles", unfollowed := true, recurses := true, apart := false, narrowed := true }
def WholePolesUptoSaid : Prop := wholePolesUptoRow.holds Tryz.pinned (OpenSpec.upto wholePolesSpec)

end Rows
end Go.Proofs.YtfichbefnpcdeaaGreat
