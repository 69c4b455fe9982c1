/-
  NARROWER THAN 'FOR EVERY INPUT', by the rows' own cells (each row's printed sentence says how): BipolyTops: laid · BipolyMakes: laid · BipolyComputes: laid · BipolyReduces: laid · BipolyRing: laid · BipolyEliminates: laid · BipolyFixes: laid.
  DERIVED. THE GIVEN ROWS OF THIS SEAT. 7 by the template 'for every input the law returns true; each argument reads behind the call as it read before'; 0 by the template 'total and deterministic' (their statements: YthoibmokhnoccaaGreatDoorTotals.lean).
  GIVEN WITH THE SEED: the statements are not yours to turn. If you find one false, say at which input.
  Laid BY PROGRAM, IN A SANDBOX (cutbox-rows.mjs): the forced cells as the released guide's own fill.sh prints them over the translation f3630833cb1349af… (all of the seat's roots in one cut). By AI agents, Wed Nov 11 2026. No macro, syntax, notation, axiom, sorry.
-/
import Derived.Test.YthoibmokhnoccaaGreatDoorChecked
import GoSem.Claim
import GoSem.ClaimJoined
import GoSem.ClaimMapViews
import Derived.JoinedTies
import Derived.KernelRfl
namespace Go.Proofs.YthoibmokhnoccaaGreatDoor
/- THE CELL 'sum', in the pinned program and in every row, IS THE sha256 OF THE DUMP (.gsa) THAT YthoibmokhnoccaaGreatDoorProg.lean LOADS. Nothing in Lean hashes anything: it is a label: what it is worth is what the hold of that sum in a sandbox is worth. -/
noncomputable def Tryz.pinned : Pinned := { name := "ythoibmokhnoccaagreatdoor", sum := "f3630833cb1349af096a2dc1ec1f785f510df87742842a05257cfc10b4edcd02", checked := Tryz.checked }
namespace Rows
def none {H : Type} : Left H := { results := [], args := [] }

/- WHAT THE LISTED PACKAGE-LEVEL VARIABLES READ AS WHEN THE CALL BEGINS. Each datum BY PROGRAM (the guide's laid-datum.mjs) off the statement by which the dump's own 'gosem.cut.vars' lays the variable. In a bare row this is a premise. The card (YthoibmokhnoccaaGreatDoorCards.lean) ties it to the program's text. -/
def laid_math_bits_deBruijn32tab {H : Type} : DataW H := .agg [.lit (.int .u8 0), .lit (.int .u8 1), .lit (.int .u8 28), .lit (.int .u8 2), .lit (.int .u8 29), .lit (.int .u8 14), .lit (.int .u8 24), .lit (.int .u8 3), .lit (.int .u8 30), .lit (.int .u8 22), .lit (.int .u8 20), .lit (.int .u8 15), .lit (.int .u8 25), .lit (.int .u8 17), .lit (.int .u8 4), .lit (.int .u8 8), .lit (.int .u8 31), .lit (.int .u8 27), .lit (.int .u8 13), .lit (.int .u8 23), .lit (.int .u8 21), .lit (.int .u8 19), .lit (.int .u8 16), .lit (.int .u8 7), .lit (.int .u8 26), .lit (.int .u8 12), .lit (.int .u8 18), .lit (.int .u8 6), .lit (.int .u8 11), .lit (.int .u8 5), .lit (.int .u8 10), .lit (.int .u8 9)]
def laid_math_bits_deBruijn64tab {H : Type} : DataW H := .agg [.lit (.int .u8 0), .lit (.int .u8 1), .lit (.int .u8 56), .lit (.int .u8 2), .lit (.int .u8 57), .lit (.int .u8 49), .lit (.int .u8 28), .lit (.int .u8 3), .lit (.int .u8 61), .lit (.int .u8 58), .lit (.int .u8 42), .lit (.int .u8 50), .lit (.int .u8 38), .lit (.int .u8 29), .lit (.int .u8 17), .lit (.int .u8 4), .lit (.int .u8 62), .lit (.int .u8 47), .lit (.int .u8 59), .lit (.int .u8 36), .lit (.int .u8 45), .lit (.int .u8 43), .lit (.int .u8 51), .lit (.int .u8 22), .lit (.int .u8 53), .lit (.int .u8 39), .lit (.int .u8 33), .lit (.int .u8 30), .lit (.int .u8 24), .lit (.int .u8 18), .lit (.int .u8 12), .lit (.int .u8 5), .lit (.int .u8 63), .lit (.int .u8 55), .lit (.int .u8 48), .lit (.int .u8 27), .lit (.int .u8 60), .lit (.int .u8 41), .lit (.int .u8 37), .lit (.int .u8 16), .lit (.int .u8 46), .lit (.int .u8 35), .lit (.int .u8 44), .lit (.int .u8 21), .lit (.int .u8 52), .lit (.int .u8 32), .lit (.int .u8 23), .lit (.int .u8 11), .lit (.int .u8 54), .lit (.int .u8 26), .lit (.int .u8 40), .lit (.int .u8 15), .lit (.int .u8 34), .lit (.int .u8 20), .lit (.int .u8 31), .lit (.int .u8 10), .lit (.int .u8 25), .lit (.int .u8 14), .lit (.int .u8 19), .lit (.int .u8 9), .lit (.int .u8 13), .lit (.int .u8 8), .lit (.int .u8 7), .lit (.int .u8 6)]
def laid_internal_strconv_uint64pow10 {H : Type} : DataW H := .agg [.lit (.int .u64 1), .lit (.int .u64 10), .lit (.int .u64 100), .lit (.int .u64 1000), .lit (.int .u64 10000), .lit (.int .u64 100000), .lit (.int .u64 1000000), .lit (.int .u64 10000000), .lit (.int .u64 100000000), .lit (.int .u64 1000000000), .lit (.int .u64 10000000000), .lit (.int .u64 100000000000), .lit (.int .u64 1000000000000), .lit (.int .u64 10000000000000), .lit (.int .u64 100000000000000), .lit (.int .u64 1000000000000000), .lit (.int .u64 10000000000000000), .lit (.int .u64 100000000000000000), .lit (.int .u64 1000000000000000000), .lit (.int .u64 10000000000000000000)]

/-- 'linkworklaw09.BipolyTops': WHATEVER THE INPUT: true; the input reads as it did. -/
def bipolyTopsSpec : ChangeSpec := { name := "bipolyTops", fn := fun _ => fun
  | [d1, d2, d3] => { results := [.lit (.bool true)], args := [d1, d2, d3] }
  | _ => none }
def bipolyTopsRow : OpenClaim := { program := "ythoibmokhnoccaagreatdoor", sum := "f3630833cb1349af096a2dc1ec1f785f510df87742842a05257cfc10b4edcd02", func := "linkwork/linkworklaw09.BipolyTops", spec := "bipolyTops", inPlace := ["internal/abi.NoEscape", "internal/bytealg.MakeNoZero"], unfollowed := true, recurses := true, named := ["internal/strconv.uint64pow10", "math/bits.deBruijn32tab", "math/bits.deBruijn64tab"], apart := false, laid := [("math/bits.deBruijn32tab", laid_math_bits_deBruijn32tab), ("math/bits.deBruijn64tab", laid_math_bits_deBruijn64tab), ("internal/strconv.uint64pow10", laid_internal_strconv_uint64pow10)] }
def BipolyTopsSaid : Prop := bipolyTopsRow.holds Tryz.pinned (OpenSpec.ofChange bipolyTopsSpec)

/-- ITS FALSE NEIGHBOUR: 'it returns false'. Refute it at one input. -/
def bipolyTopsWrong : ChangeSpec := { name := "bipolyTops", fn := fun _ => fun
  | [d1, d2, d3] => { results := [.lit (.bool false)], args := [d1, d2, d3] }
  | _ => none }
def BipolyTopsWrongFalsely : Prop := bipolyTopsRow.holds Tryz.pinned (OpenSpec.ofChange bipolyTopsWrong)

/-- 'linkworklaw09.BipolyMakes': WHATEVER THE INPUT: true; the input reads as it did. -/
def bipolyMakesSpec : ChangeSpec := { name := "bipolyMakes", fn := fun _ => fun
  | [d1, d2] => { results := [.lit (.bool true)], args := [d1, d2] }
  | _ => none }
def bipolyMakesRow : OpenClaim := { program := "ythoibmokhnoccaagreatdoor", sum := "f3630833cb1349af096a2dc1ec1f785f510df87742842a05257cfc10b4edcd02", func := "linkwork/linkworklaw09.BipolyMakes", spec := "bipolyMakes", inPlace := ["internal/abi.NoEscape", "internal/bytealg.MakeNoZero"], unfollowed := true, recurses := true, named := ["internal/strconv.uint64pow10", "math/bits.deBruijn32tab", "math/bits.deBruijn64tab"], apart := false, laid := [("math/bits.deBruijn32tab", laid_math_bits_deBruijn32tab), ("math/bits.deBruijn64tab", laid_math_bits_deBruijn64tab), ("internal/strconv.uint64pow10", laid_internal_strconv_uint64pow10)] }
def BipolyMakesSaid : Prop := bipolyMakesRow.holds Tryz.pinned (OpenSpec.ofChange bipolyMakesSpec)

/-- ITS FALSE NEIGHBOUR: 'it returns false'. Refute it at one input. -/
def bipolyMakesWrong : ChangeSpec := { name := "bipolyMakes", fn := fun _ => fun
  | [d1, d2] => { results := [.lit (.bool false)], args := [d1, d2] }
  | _ => none }
def BipolyMakesWrongFalsely : Prop := bipolyMakesRow.holds Tryz.pinned (OpenSpec.ofChange bipolyMakesWrong)

/-- 'linkworklaw09.BipolyComputes': WHATEVER THE INPUT: true; the input reads as it did. -/
def bipolyComputesSpec : ChangeSpec := { name := "bipolyComputes", fn := fun _ => fun
  | [d1, d2, d3] => { results := [.lit (.bool true)], args := [d1, d2, d3] }
  | _ => none }
def bipolyComputesRow : OpenClaim := { program := "ythoibmokhnoccaagreatdoor", sum := "f3630833cb1349af096a2dc1ec1f785f510df87742842a05257cfc10b4edcd02", func := "linkwork/linkworklaw09.BipolyComputes", spec := "bipolyComputes", inPlace := ["internal/abi.NoEscape", "internal/bytealg.MakeNoZero"], unfollowed := true, recurses := true, named := ["internal/strconv.uint64pow10", "math/bits.deBruijn32tab", "math/bits.deBruijn64tab"], apart := false, laid := [("math/bits.deBruijn32tab", laid_math_bits_deBruijn32tab), ("math/bits.deBruijn64tab", laid_math_bits_deBruijn64tab), ("internal/strconv.uint64pow10", laid_internal_strconv_uint64pow10)] }
def BipolyComputesSaid : Prop := bipolyComputesRow.holds Tryz.pinned (OpenSpec.ofChange bipolyComputesSpec)

/-- ITS FALSE NEIGHBOUR: 'it returns false'. Refute it at one input. -/
def bipolyComputesWrong : ChangeSpec := { name := "bipolyComputes", fn := fun _ => fun
  | [d1, d2, d3] => { results := [.lit (.bool false)], args := [d1, d2, d3] }
  | _ => none }
def BipolyComputesWrongFalsely : Prop := bipolyComputesRow.holds Tryz.pinned (OpenSpec.ofChange bipolyComputesWrong)

/-- 'linkworklaw09.BipolyReduces': WHATEVER THE INPUT: true; the input reads as it did. -/
def bipolyReducesSpec : ChangeSpec := { name := "bipolyReduces", fn := fun _ => fun
  | [d1, d2, d3] => { results := [.lit (.bool true)], args := [d1, d2, d3] }
  | _ => none }
def bipolyReducesRow : OpenClaim := { program := "ythoibmokhnoccaagreatdoor", sum := "f3630833cb1349af096a2dc1ec1f785f510df87742842a05257cfc10b4edcd02", func := "linkwork/linkworklaw09.BipolyReduces", spec := "bipolyReduces", inPlace := ["internal/abi.NoEscape", "internal/bytealg.MakeNoZero"], unfollowed := true, recurses := true, named := ["internal/strconv.uint64pow10", "math/bits.deBruijn32tab", "math/bits.deBruijn64tab"], apart := false, laid := [("math/bits.deBruijn32tab", laid_math_bits_deBruijn32tab), ("math/bits.deBruijn64tab", laid_math_bits_deBruijn64tab), ("internal/strconv.uint64pow10", laid_internal_strconv_uint64pow10)] }
def BipolyReducesSaid : Prop := bipolyReducesRow.holds Tryz.pinned (OpenSpec.ofChange bipolyReducesSpec)

/-- ITS FALSE NEIGHBOUR: 'it returns false'. Refute it at one input. -/
def bipolyReducesWrong : ChangeSpec := { name := "bipolyReduces", fn := fun _ => fun
  | [d1, d2, d3] => { results := [.lit (.bool false)], args := [d1, d2, d3] }
  | _ => none }
def BipolyReducesWrongFalsely : Prop := bipolyReducesRow.holds Tryz.pinned (OpenSpec.ofChange bipolyReducesWrong)

/-- 'linkworklaw09.BipolyRing': WHATEVER THE INPUT: true; the input reads as it did. -/
def bipolyRingSpec : ChangeSpec := { name := "bipolyRing", fn := fun _ => fun
  | [d1, d2, d3] => { results := [.lit (.bool true)], args := [d1, d2, d3] }
  | _ => none }
def bipolyRingRow : OpenClaim := { program := "ythoibmokhnoccaagreatdoor", sum := "f3630833cb1349af096a2dc1ec1f785f510df87742842a05257cfc10b4edcd02", func := "linkwork/linkworklaw09.BipolyRing", spec := "bipolyRing", inPlace := ["internal/abi.NoEscape", "internal/bytealg.MakeNoZero"], unfollowed := true, recurses := true, named := ["internal/strconv.uint64pow10", "math/bits.deBruijn32tab", "math/bits.deBruijn64tab"], apart := false, laid := [("math/bits.deBruijn32tab", laid_math_bits_deBruijn32tab), ("math/bits.deBruijn64tab", laid_math_bits_deBruijn64tab), ("internal/strconv.uint64pow10", laid_internal_strconv_uint64pow10)] }
def BipolyRingSaid : Prop := bipolyRingRow.holds Tryz.pinned (OpenSpec.ofChange bipolyRingSpec)

/-- ITS FALSE NEIGHBOUR: 'it returns false'. Refute it at one input. -/
def bipolyRingWrong : ChangeSpec := { name := "bipolyRing", fn := fun _ => fun
  | [d1, d2, d3] => { results := [.lit (.bool false)], args := [d1, d2, d3] }
  | _ => none }
def BipolyRingWrongFalsely : Prop := bipolyRingRow.holds Tryz.pinned (OpenSpec.ofChange bipolyRingWrong)

/-- 'linkworklaw09.BipolyEliminates': WHATEVER THE INPUT: true; the input reads as it did. -/
def bipolyEliminatesSpec : ChangeSpec := { name := "bipolyEliminates", fn := fun _ => fun
  | [d1, d2, d3] => { results := [.lit (.bool true)], args := [d1, d2, d3] }
  | _ => none }
def bipolyEliminatesRow : OpenClaim := { program := "ythoibmokhnoccaagreatdoor", sum := "f3630833cb1349af096a2dc1ec1f785f510df87742842a05257cfc10b4edcd02", func := "linkwork/linkworklaw09.BipolyEliminates", spec := "bipolyEliminates", inPlace := ["internal/abi.NoEscape", "internal/bytealg.MakeNoZero"], unfollowed := true, recurses := true, named := ["internal/strconv.uint64pow10", "math/bits.deBruijn32tab", "math/bits.deBruijn64tab"], apart := false, laid := [("math/bits.deBruijn32tab", laid_math_bits_deBruijn32tab), ("math/bits.deBruijn64tab", laid_math_bits_deBruijn64tab), ("internal/strconv.uint64pow10", laid_internal_strconv_uint64pow10)] }
def BipolyEliminatesSaid : Prop := bipolyEliminatesRow.holds Tryz.pinned (OpenSpec.ofChange bipolyEliminatesSpec)

/-- ITS FALSE NEIGHBOUR: 'it returns false'. Refute it at one input. -/
def bipolyEliminatesWrong : ChangeSpec := { name := "bipolyEliminates", fn := fun _ => fun
  | [d1, d2, d3] => { results := [.lit (.bool false)], args := [d1, d2, d3] }
  | _ => none }
def BipolyEliminatesWrongFalsely : Prop := bipolyEliminatesRow.holds Tryz.pinned (OpenSpec.ofChange bipolyEliminatesWrong)

/-- 'linkworklaw09.BipolyFixes': WHATEVER THE INPUT: true; the input reads as it did. -/
def bipolyFixesSpec : ChangeSpec := { name := "bipolyFixes", fn := fun _ => fun
  | [d1, d2, d3] => { results := [.lit (.bool true)], args := [d1, d2, d3] }
  | _ => none }
def bipolyFixesRow : OpenClaim := { program := "ythoibmokhnoccaagreatdoor", sum := "f3630833cb1349af096a2dc1ec1f785f510df87742842a05257cfc10b4edcd02", func := "linkwork/linkworklaw09.BipolyFixes", spec := "bipolyFixes", inPlace := ["internal/abi.NoEscape", "internal/bytealg.MakeNoZero"], unfollowed := true, recurses := true, named := ["internal/strconv.uint64pow10", "math/bits.deBruijn32tab", "math/bits.deBruijn64tab"], apart := false, laid := [("math/bits.deBruijn32tab", laid_math_bits_deBruijn32tab), ("math/bits.deBruijn64tab", laid_math_bits_deBruijn64tab), ("internal/strconv.uint64pow10", laid_internal_strconv_uint64pow10)] }
def BipolyFixesSaid : Prop := bipolyFixesRow.holds Tryz.pinned (OpenSpec.ofChange bipolyFixesSpec)

/-- ITS FALSE NEIGHBOUR: 'it returns false'. Refute it at one input. -/
def bipolyFixesWrong : ChangeSpec := { name := "bipolyFixes", fn := fun _ => fun
  | [d1, d2, d3] => { results := [.lit (.bool false)], args := [d1, d2, d3] }
  | _ => none }
def BipolyFixesWrongFalsely : Prop := bipolyFixesRow.holds Tryz.pinned (OpenSpec.ofChange bipolyFixesWrong)

/- THE SECOND FORM. 'bulk': how many values and letters a reading holds, each counted each time it is reached (what is shared counts as often as it is met; a slice's spare places count too). A statement '..UptoSaid' is the law's where the arguments, and the package variables that the reading takes, are together of bulk at most 1048576: NARROWER than '..Said'. Prove '..Said' where nothing that the law and all that it calls make is longer than what came in: it says more and counts as full. Else prove '..UptoSaid'. A law counts once. -/
mutual
def uptoBulk {H : Type} : DataW H → Nat
  | .lit (.string bytes) => bytes.length + 1
  | .lit _ => 1
  | .nil => 1
  | .ptr d => uptoBulk d + 1
  | .slice elems spare => uptoBulkAll elems + uptoBulkAll spare + 1
  | .agg parts => uptoBulkAll parts + 1
  | .iface _ d => uptoBulk d + 1
  | .map entries => uptoBulkEntries entries + 1
  | .held _ => 1
def uptoBulkAll {H : Type} : List (DataW H) → Nat
  | [] => 0
  | d :: r => uptoBulk d + uptoBulkAll r
def uptoBulkEntries {H : Type} : List (Lit × DataW H) → Nat
  | [] => 0
  | x :: r => uptoBulkEntry x + uptoBulkEntries r
def uptoBulkEntry {H : Type} : Lit × DataW H → Nat
  | (.string bytes, d) => bytes.length + uptoBulk d + 1
  | (_, d) => uptoBulk d + 1
 end
def uptoSmall : (H : Type) → List (DataW H) → Bool := fun _ ds => decide (uptoBulkAll ds ≤ 1048576)
def OpenSpec.upto (s : _root_.Go.ChangeSpec) : _root_.Go.OpenSpec := { _root_.Go.OpenSpec.ofChange s with cond := some uptoSmall }

/-- 'linkworklaw09.BipolyTops', WHERE WHAT IT READS IS OF BULK AT MOST 1048576: true; the input reads as it did. -/
def bipolyTopsUptoRow : OpenClaim := { program := "ythoibmokhnoccaagreatdoor", sum := "f3630833cb1349af096a2dc1ec1f785f510df87742842a05257cfc10b4edcd02", func := "linkwork/linkworklaw09.BipolyTops", spec := "bipolyTops", inPlace := ["internal/abi.NoEscape", "internal/bytealg.MakeNoZero"], unfollowed := true, recurses := true, named := ["internal/strconv.uint64pow10", "math/bits.deBruijn32tab", "math/bits.deBruijn64tab"], apart := false, laid := [("math/bits.deBruijn32tab", laid_math_bits_deBruijn32tab), ("math/bits.deBruijn64tab", laid_math_bits_deBruijn64tab), ("internal/strconv.uint64pow10", laid_internal_strconv_uint64pow10)], narrowed := true }
def BipolyTopsUptoSaid : Prop := bipolyTopsUptoRow.holds Tryz.pinned (OpenSpec.upto bipolyTopsSpec)

/-- 'linkworklaw09.BipolyMakes', WHERE WHAT IT READS IS OF BULK AT MOST 1048576: true; the input reads as it did. -/
def bipolyMakesUptoRow : OpenClaim := { program := "ythoibmokhnoccaagreatdoor", sum := "f3630833cb1349af096a2dc1ec1f785f510df87742842a05257cfc10b4edcd02", func := "linkwork/linkworklaw09.BipolyMakes", spec := "bipolyMakes", inPlace := ["internal/abi.NoEscape", "internal/bytealg.MakeNoZero"], unfollowed := true, recurses := true, named := ["internal/strconv.uint64pow10", "math/bits.deBruijn32tab", "math/bits.deBruijn64tab"], apart := false, laid := [("math/bits.deBruijn32tab", laid_math_bits_deBruijn32tab), ("math/bits.deBruijn64tab", laid_math_bits_deBruijn64tab), ("internal/strconv.uint64pow10", laid_internal_strconv_uint64pow10)], narrowed := true }
def BipolyMakesUptoSaid : Prop := bipolyMakesUptoRow.holds Tryz.pinned (OpenSpec.upto bipolyMakesSpec)

/-- 'linkworklaw09.BipolyComputes', WHERE WHAT IT READS IS OF BULK AT MOST 1048576: true; the input reads as it did. -/
def bipolyComputesUptoRow : OpenClaim := { program := "ythoibmokhnoccaagreatdoor", sum := "f3630833cb1349af096a2dc1ec1f785f510df87742842a05257cfc10b4edcd02", func := "linkwork/linkworklaw09.BipolyComputes", spec := "bipolyComputes", inPlace := ["internal/abi.NoEscape", "internal/bytealg.MakeNoZero"], unfollowed := true, recurses := true, named := ["internal/strconv.uint64pow10", "math/bits.deBruijn32tab", "math/bits.deBruijn64tab"], apart := false, laid := [("math/bits.deBruijn32tab", laid_math_bits_deBruijn32tab), ("math/bits.deBruijn64tab", laid_math_bits_deBruijn64tab), ("internal/strconv.uint64pow10", laid_internal_strconv_uint64pow10)], narrowed := true }
def BipolyComputesUptoSaid : Prop := bipolyComputesUptoRow.holds Tryz.pinned (OpenSpec.upto bipolyComputesSpec)

/-- 'linkworklaw09.BipolyReduces', WHERE WHAT IT READS IS OF BULK AT MOST 1048576: true; the input reads as it did. -/
def bipolyReducesUptoRow : OpenClaim := { program := "ythoibmokhnoccaagreatdoor", sum := "f3630833cb1349af096a2dc1ec1f785f510df87742842a05257cfc10b4edcd02", func := "linkwork/linkworklaw09.BipolyReduces", spec := "bipolyReduces", inPlace := ["internal/abi.NoEscape", "internal/bytealg.MakeNoZero"], unfollowed := true, recurses := true, named := ["internal/strconv.uint64pow10", "math/bits.deBruijn32tab", "math/bits.deBruijn64tab"], apart := false, laid := [("math/bits.deBruijn32tab", laid_math_bits_deBruijn32tab), ("math/bits.deBruijn64tab", laid_math_bits_deBruijn64tab), ("internal/strconv.uint64pow10", laid_internal_strconv_uint64pow10)], narrowed := true }
def BipolyReducesUptoSaid : Prop := bipolyReducesUptoRow.holds Tryz.pinned (OpenSpec.upto bipolyReducesSpec)

/-- 'linkworklaw09.BipolyRing', WHERE WHAT IT READS IS OF BULK AT MOST 1048576: true; the input reads as it did. -/
def bipolyRingUptoRow : OpenClaim := { program := "ythoibmokhnoccaagreatdoor", sum := "f3630833cb1349af096a2dc1ec1f785f510df87742842a05257cfc10b4edcd02", func := "linkwork/linkworklaw09.BipolyRing", spec := "bipolyRing", inPlace := ["internal/abi.NoEscape", "internal/bytealg.MakeNoZero"], unfollowed := true, recurses := true, named := ["internal/strconv.uint64pow10", "math/bits.deBruijn32tab", "math/bits.deBruijn64tab"], apart := false, laid := [("math/bits.deBruijn32tab", laid_math_bits_deBruijn32tab), ("math/bits.deBruijn64tab", laid_math_bits_deBruijn64tab), ("internal/strconv.uint64pow10", laid_internal_strconv_uint64pow10)], narrowed := true }
def BipolyRingUptoSaid : Prop := bipolyRingUptoRow.holds Tryz.pinned (OpenSpec.upto bipolyRingSpec)

/-- 'linkworklaw09.BipolyEliminates', WHERE WHAT IT READS IS OF BULK AT MOST 1048576: true; the input reads as it did. -/
def bipolyEliminatesUptoRow : OpenClaim := { program := "ythoibmokhnoccaagreatdoor", sum := "f3630833cb1349af096a2dc1ec1f785f510df87742842a05257cfc10b4edcd02", func := "linkwork/linkworklaw09.BipolyEliminates", spec := "bipolyEliminates", inPlace := ["internal/abi.NoEscape", "internal/bytealg.MakeNoZero"], unfollowed := true, recurses := true, named := ["internal/strconv.uint64pow10", "math/bits.deBruijn32tab", "math/bits.deBruijn64tab"], apart := false, laid := [("math/bits.deBruijn32tab", laid_math_bits_deBruijn32tab), ("math/bits.deBruijn64tab", laid_math_bits_deBruijn64tab), ("internal/strconv.uint64pow10", laid_internal_strconv_uint64pow10)], narrowed := true }
def BipolyEliminatesUptoSaid : Prop := bipolyEliminatesUptoRow.holds Tryz.pinned (OpenSpec.upto bipolyEliminatesSpec)

/-- 'linkworklaw09.BipolyFixes', WHERE WHAT IT READS IS OF BULK AT MOST 1048576: true; the input reads as it did. -/
def bipolyFixesUptoRow : OpenClaim := { program := "ythoibmokhnoccaagreatdoor", sum := "f3630833cb1349af096a2dc1ec1f785f510df87742842a05257cfc10b4edcd02", func := "linkwork/linkworklaw09.BipolyFixes", spec := "bipolyFixes", inPlace := ["internal/abi.NoEscape", "internal/bytealg.MakeNoZero"], unfollowed := true, recurses := true, named := ["internal/strconv.uint64pow10", "math/bits.deBruijn32tab", "math/bits.deBruijn64tab"], apart := false, laid := [("math/bits.deBruijn32tab", laid_math_bits_deBruijn32tab), ("math/bits.deBruijn64tab", laid_math_bits_deBruijn64tab), ("internal/strconv.uint64pow10", laid_internal_strconv_uint64pow10)], narrowed := true }
def BipolyFixesUptoSaid : Prop := bipolyFixesUptoRow.holds Tryz.pinned (OpenSpec.upto bipolyFixesSpec)

end Rows
end Go.Proofs.YthoibmokhnoccaaGreatDoor
