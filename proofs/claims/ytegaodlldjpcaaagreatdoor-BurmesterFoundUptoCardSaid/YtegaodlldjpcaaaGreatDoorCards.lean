/-
  DERIVED. GIVEN WITH THE SEED: THE CARDS: each row of YtegaodlldjpcaaaGreatDoorRows.lean that lists a variable, with what it lists TIED to the program's text (the seventh form; the later family's looks); each row that meets fmt, with fmt's text TOLD by the authors' own Lean function (tested against real Go, not proved from fmt's source: count such statements apart). THE CARD IS WHAT COUNTS. Prove the row's statement (the work); the ties are given (YtegaodlldjpcaaaGreatDoorTie.lean); close each card by the builder's one call (the guide's Derived/Test/ToyasCard.lean, 'card_holds'). Laid BY PROGRAM, IN A SANDBOX (cutbox-door.mjs). By AI agents, Wed Nov 11 2026. No macro, syntax, notation, axiom, sorry.
-/
import Derived.Test.YtegaodlldjpcaaaGreatDoorRows
import GoSem.ClaimSeven
namespace Go.Proofs.YtegaodlldjpcaaaGreatDoor
namespace Rows

/-- THE TIED CARD OF 'linkworklaw46.ThreeposClosed'. -/
def threeposClosedCard : Claim7 := { stood := { row := threeposClosedRow, standIns := [], harness := (true, "6c63c5876644389737d06e32bfb1f4d6d64d30a8f6dc587a568a13e06108225e"), looks := true }, kinds := [], alts := [], laidByText := true, laidKinds := [.data, .data, .data], laidTests := true, laidLooks := .later }
def ThreeposClosedCardSaid : Prop := Claim7.holds Tryz.pinned (.plain (OpenSpec.ofChange threeposClosedSpec)) threeposClosedCard

/-- THE TIED CARD OF 'linkworklaw47.BurmesterPasses'. -/
def burmesterPassesCard : Claim7 := { stood := { row := burmesterPassesRow, standIns := [], harness := (true, "6c63c5876644389737d06e32bfb1f4d6d64d30a8f6dc587a568a13e06108225e"), looks := true }, kinds := [], alts := [], laidByText := true, laidKinds := [.data, .data, .data], laidTests := true, laidLooks := .later }
def BurmesterPassesCardSaid : Prop := Claim7.holds Tryz.pinned (.plain (OpenSpec.ofChange burmesterPassesSpec)) burmesterPassesCard

/-- THE TIED CARD OF 'linkworklaw47.BurmesterFound'. -/
def burmesterFoundCard : Claim7 := { stood := { row := burmesterFoundRow, standIns := [], harness := (true, "6c63c5876644389737d06e32bfb1f4d6d64d30a8f6dc587a568a13e06108225e"), looks := true }, kinds := [], alts := [], laidByText := true, laidKinds := [.data, .data, .data], laidTests := true, laidLooks := .later }
def BurmesterFoundCardSaid : Prop := Claim7.holds Tryz.pinned (.plain (OpenSpec.ofChange burmesterFoundSpec)) burmesterFoundCard

/-- THE TIED CARD OF 'linkworklaw47.BurmesterPoles'. -/
def burmesterPolesCard : Claim7 := { stood := { row := burmesterPolesRow, standIns := [], harness := (true, "6c63c5876644389737d06e32bfb1f4d6d64d30a8f6dc587a568a13e06108225e"), looks := true }, kinds := [], alts := [], laidByText := true, laidKinds := [.data, .data, .data], laidTests := true, laidLooks := .later }
def BurmesterPolesCardSaid : Prop := Claim7.holds Tryz.pinned (.plain (OpenSpec.ofChange burmesterPolesSpec)) burmesterPolesCard

/-- THE SECOND FORM's CARD OF 'linkworklaw46.ThreeposClosed'. -/
def threeposClosedUptoCard : Claim7 := { stood := { row := threeposClosedUptoRow, standIns := [], harness := (true, "6c63c5876644389737d06e32bfb1f4d6d64d30a8f6dc587a568a13e06108225e"), looks := true }, kinds := [], alts := [], laidByText := true, laidKinds := [.data, .data, .data], laidTests := true, laidLooks := .later }
def ThreeposClosedUptoCardSaid : Prop := Claim7.holds Tryz.pinned (.plain (OpenSpec.upto threeposClosedSpec)) threeposClosedUptoCard

/-- THE SECOND FORM's CARD OF 'linkworklaw47.BurmesterPasses'. -/
def burmesterPassesUptoCard : Claim7 := { stood := { row := burmesterPassesUptoRow, standIns := [], harness := (true, "6c63c5876644389737d06e32bfb1f4d6d64d30a8f6dc587a568a13e06108225e"), looks := true }, kinds := [], alts := [], laidByText := true, laidKinds := [.data, .data, .data], laidTests := true, laidLooks := .later }
def BurmesterPassesUptoCardSaid : Prop := Claim7.holds Tryz.pinned (.plain (OpenSpec.upto burmesterPassesSpec)) burmesterPassesUptoCard

/-- THE SECOND FORM's CARD OF 'linkworklaw47.BurmesterFound'. -/
def burmesterFoundUptoCard : Claim7 := { stood := { row := burmesterFoundUptoRow, standIns := [], harness := (true, "6c63c5876644389737d06e32bfb1f4d6d64d30a8f6dc587a568a13e06108225e"), looks := true }, kinds := [], alts := [], laidByText := true, laidKinds := [.data, .data, .data], laidTests := true, laidLooks := .later }
def BurmesterFoundUptoCardSaid : Prop := Claim7.holds Tryz.pinned (.plain (OpenSpec.upto burmesterFoundSpec)) burmesterFoundUptoCard

/-- THE SECOND FORM's CARD OF 'linkworklaw47.BurmesterPoles'. -/
def burmesterPolesUptoCard : Claim7 := { stood := { row := burmesterPolesUptoRow, standIns := [], harness := (true, "6c63c5876644389737d06e32bfb1f4d6d64d30a8f6dc587a568a13e06108225e"), looks := true }, kinds := [], alts := [], laidByText := true, laidKinds := [.data, .data, .data], laidTests := true, laidLooks := .later }
def BurmesterPolesUptoCardSaid : Prop := Claim7.holds Tryz.pinned (.plain (OpenSpec.upto burmesterPolesSpec)) burmesterPolesUptoCard
end Rows
end Go.Proofs.YtegaodlldjpcaaaGreatDoor
