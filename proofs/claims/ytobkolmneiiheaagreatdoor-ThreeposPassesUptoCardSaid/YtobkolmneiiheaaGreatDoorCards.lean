/-
  DERIVED. GIVEN WITH THE SEED: THE CARDS: each row of YtobkolmneiiheaaGreatDoorRows.lean that lists a variable, with what it lists TIED to the program's text (the seventh form; the later family's looks); each row that meets fmt, with fmt's text TOLD by the authors' own Lean function (tested against real Go, not proved from fmt's source: count such statements apart). THE CARD IS WHAT COUNTS. Prove the row's statement (the work); the ties are given (YtobkolmneiiheaaGreatDoorTie.lean); close each card by the builder's one call (the guide's Derived/Test/ToyasCard.lean, 'card_holds'). Laid BY PROGRAM, IN A SANDBOX (cutbox-door.mjs). By AI agents, Wed Nov 11 2026. No macro, syntax, notation, axiom, sorry.
-/
import Derived.Test.YtobkolmneiiheaaGreatDoorRows
import GoSem.ClaimSeven
namespace Go.Proofs.YtobkolmneiiheaaGreatDoor
namespace Rows

/-- THE TIED CARD OF 'linkworklaw46.ThreeposLines'. -/
def threeposLinesCard : Claim7 := { stood := { row := threeposLinesRow, standIns := [], harness := (true, "ba273570018cc2ffc64eaadb85c721e843269f9e3bf11eacea766aa5f12bc587"), looks := true }, kinds := [], alts := [], laidByText := true, laidKinds := [.data, .data, .data], laidTests := true, laidLooks := .later }
def ThreeposLinesCardSaid : Prop := Claim7.holds Tryz.pinned (.plain (OpenSpec.ofChange threeposLinesSpec)) threeposLinesCard

/-- THE TIED CARD OF 'linkworklaw46.ThreeposEither'. -/
def threeposEitherCard : Claim7 := { stood := { row := threeposEitherRow, standIns := [], harness := (true, "ba273570018cc2ffc64eaadb85c721e843269f9e3bf11eacea766aa5f12bc587"), looks := true }, kinds := [], alts := [], laidByText := true, laidKinds := [.data, .data, .data], laidTests := true, laidLooks := .later }
def ThreeposEitherCardSaid : Prop := Claim7.holds Tryz.pinned (.plain (OpenSpec.ofChange threeposEitherSpec)) threeposEitherCard

/-- THE TIED CARD OF 'linkworklaw46.ThreeposLinkages'. -/
def threeposLinkagesCard : Claim7 := { stood := { row := threeposLinkagesRow, standIns := [], harness := (true, "ba273570018cc2ffc64eaadb85c721e843269f9e3bf11eacea766aa5f12bc587"), looks := true }, kinds := [], alts := [], laidByText := true, laidKinds := [.data, .data, .data], laidTests := true, laidLooks := .later }
def ThreeposLinkagesCardSaid : Prop := Claim7.holds Tryz.pinned (.plain (OpenSpec.ofChange threeposLinkagesSpec)) threeposLinkagesCard

/-- THE TIED CARD OF 'linkworklaw46.ThreeposDyads'. -/
def threeposDyadsCard : Claim7 := { stood := { row := threeposDyadsRow, standIns := [], harness := (true, "ba273570018cc2ffc64eaadb85c721e843269f9e3bf11eacea766aa5f12bc587"), looks := true }, kinds := [], alts := [], laidByText := true, laidKinds := [.data, .data, .data], laidTests := true, laidLooks := .later }
def ThreeposDyadsCardSaid : Prop := Claim7.holds Tryz.pinned (.plain (OpenSpec.ofChange threeposDyadsSpec)) threeposDyadsCard

/-- THE TIED CARD OF 'linkworklaw46.ThreeposPasses'. -/
def threeposPassesCard : Claim7 := { stood := { row := threeposPassesRow, standIns := [], harness := (true, "ba273570018cc2ffc64eaadb85c721e843269f9e3bf11eacea766aa5f12bc587"), looks := true }, kinds := [], alts := [], laidByText := true, laidKinds := [.data, .data, .data], laidTests := true, laidLooks := .later }
def ThreeposPassesCardSaid : Prop := Claim7.holds Tryz.pinned (.plain (OpenSpec.ofChange threeposPassesSpec)) threeposPassesCard

/-- THE TIED CARD OF 'linkworklaw46.ThreeposBack'. -/
def threeposBackCard : Claim7 := { stood := { row := threeposBackRow, standIns := [], harness := (true, "ba273570018cc2ffc64eaadb85c721e843269f9e3bf11eacea766aa5f12bc587"), looks := true }, kinds := [], alts := [], laidByText := true, laidKinds := [.data, .data, .data], laidTests := true, laidLooks := .later }
def ThreeposBackCardSaid : Prop := Claim7.holds Tryz.pinned (.plain (OpenSpec.ofChange threeposBackSpec)) threeposBackCard

/-- THE TIED CARD OF 'linkworklaw46.ThreeposClosed'. -/
def threeposClosedCard : Claim7 := { stood := { row := threeposClosedRow, standIns := [], harness := (true, "ba273570018cc2ffc64eaadb85c721e843269f9e3bf11eacea766aa5f12bc587"), looks := true }, kinds := [], alts := [], laidByText := true, laidKinds := [.data, .data, .data], laidTests := true, laidLooks := .later }
def ThreeposClosedCardSaid : Prop := Claim7.holds Tryz.pinned (.plain (OpenSpec.ofChange threeposClosedSpec)) threeposClosedCard

/-- THE SECOND FORM's CARD OF 'linkworklaw46.ThreeposLines'. -/
def threeposLinesUptoCard : Claim7 := { stood := { row := threeposLinesUptoRow, standIns := [], harness := (true, "ba273570018cc2ffc64eaadb85c721e843269f9e3bf11eacea766aa5f12bc587"), looks := true }, kinds := [], alts := [], laidByText := true, laidKinds := [.data, .data, .data], laidTests := true, laidLooks := .later }
def ThreeposLinesUptoCardSaid : Prop := Claim7.holds Tryz.pinned (.plain (OpenSpec.upto threeposLinesSpec)) threeposLinesUptoCard

/-- THE SECOND FORM's CARD OF 'linkworklaw46.ThreeposEither'. -/
def threeposEitherUptoCard : Claim7 := { stood := { row := threeposEitherUptoRow, standIns := [], harness := (true, "ba273570018cc2ffc64eaadb85c721e843269f9e3bf11eacea766aa5f12bc587"), looks := true }, kinds := [], alts := [], laidByText := true, laidKinds := [.data, .data, .data], laidTests := true, laidLooks := .later }
def ThreeposEitherUptoCardSaid : Prop := Claim7.holds Tryz.pinned (.plain (OpenSpec.upto threeposEitherSpec)) threeposEitherUptoCard

/-- THE SECOND FORM's CARD OF 'linkworklaw46.ThreeposLinkages'. -/
def threeposLinkagesUptoCard : Claim7 := { stood := { row := threeposLinkagesUptoRow, standIns := [], harness := (true, "ba273570018cc2ffc64eaadb85c721e843269f9e3bf11eacea766aa5f12bc587"), looks := true }, kinds := [], alts := [], laidByText := true, laidKinds := [.data, .data, .data], laidTests := true, laidLooks := .later }
def ThreeposLinkagesUptoCardSaid : Prop := Claim7.holds Tryz.pinned (.plain (OpenSpec.upto threeposLinkagesSpec)) threeposLinkagesUptoCard

/-- THE SECOND FORM's CARD OF 'linkworklaw46.ThreeposDyads'. -/
def threeposDyadsUptoCard : Claim7 := { stood := { row := threeposDyadsUptoRow, standIns := [], harness := (true, "ba273570018cc2ffc64eaadb85c721e843269f9e3bf11eacea766aa5f12bc587"), looks := true }, kinds := [], alts := [], laidByText := true, laidKinds := [.data, .data, .data], laidTests := true, laidLooks := .later }
def ThreeposDyadsUptoCardSaid : Prop := Claim7.holds Tryz.pinned (.plain (OpenSpec.upto threeposDyadsSpec)) threeposDyadsUptoCard

/-- THE SECOND FORM's CARD OF 'linkworklaw46.ThreeposPasses'. -/
def threeposPassesUptoCard : Claim7 := { stood := { row := threeposPassesUptoRow, standIns := [], harness := (true, "ba273570018cc2ffc64eaadb85c721e843269f9e3bf11eacea766aa5f12bc587"), looks := true }, kinds := [], alts := [], laidByText := true, laidKinds := [.data, .data, .data], laidTests := true, laidLooks := .later }
def ThreeposPassesUptoCardSaid : Prop := Claim7.holds Tryz.pinned (.plain (OpenSpec.upto threeposPassesSpec)) threeposPassesUptoCard

/-- THE SECOND FORM's CARD OF 'linkworklaw46.ThreeposBack'. -/
def threeposBackUptoCard : Claim7 := { stood := { row := threeposBackUptoRow, standIns := [], harness := (true, "ba273570018cc2ffc64eaadb85c721e843269f9e3bf11eacea766aa5f12bc587"), looks := true }, kinds := [], alts := [], laidByText := true, laidKinds := [.data, .data, .data], laidTests := true, laidLooks := .later }
def ThreeposBackUptoCardSaid : Prop := Claim7.holds Tryz.pinned (.plain (OpenSpec.upto threeposBackSpec)) threeposBackUptoCard

/-- THE SECOND FORM's CARD OF 'linkworklaw46.ThreeposClosed'. -/
def threeposClosedUptoCard : Claim7 := { stood := { row := threeposClosedUptoRow, standIns := [], harness := (true, "ba273570018cc2ffc64eaadb85c721e843269f9e3bf11eacea766aa5f12bc587"), looks := true }, kinds := [], alts := [], laidByText := true, laidKinds := [.data, .data, .data], laidTests := true, laidLooks := .later }
def ThreeposClosedUptoCardSaid : Prop := Claim7.holds Tryz.pinned (.plain (OpenSpec.upto threeposClosedSpec)) threeposClosedUptoCard
end Rows
end Go.Proofs.YtobkolmneiiheaaGreatDoor
