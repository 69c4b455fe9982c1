/-
  DERIVED. GIVEN WITH THE SEED: THE CARDS: each row of YthoibmokhnoccaaGreatDoorRows.lean that lists a variable, with what it lists TIED to the program's text (the seventh form; the later family's looks); each row that meets fmt, with fmt's text TOLD by the authors' own Lean function (tested against real Go, not proved from fmt's source: count such statements apart). THE CARD IS WHAT COUNTS. Prove the row's statement (the work); the ties are given (YthoibmokhnoccaaGreatDoorTie.lean); close each card by the builder's one call (the guide's Derived/Test/ToyasCard.lean, 'card_holds'). Laid BY PROGRAM, IN A SANDBOX (cutbox-door.mjs). By AI agents, Wed Nov 11 2026. No macro, syntax, notation, axiom, sorry.
-/
import Derived.Test.YthoibmokhnoccaaGreatDoorRows
import GoSem.ClaimSeven
namespace Go.Proofs.YthoibmokhnoccaaGreatDoor
namespace Rows

/-- THE TIED CARD OF 'linkworklaw09.BipolyTops'. -/
def bipolyTopsCard : Claim7 := { stood := { row := bipolyTopsRow, standIns := [], harness := (true, "cc07ce23614dfe40ec211b54e1d94835c80852487f51e02eea24d186bf704eee"), looks := true }, kinds := [], alts := [], laidByText := true, laidKinds := [.data, .data, .data], laidTests := true, laidLooks := .later }
def BipolyTopsCardSaid : Prop := Claim7.holds Tryz.pinned (.plain (OpenSpec.ofChange bipolyTopsSpec)) bipolyTopsCard

/-- THE TIED CARD OF 'linkworklaw09.BipolyMakes'. -/
def bipolyMakesCard : Claim7 := { stood := { row := bipolyMakesRow, standIns := [], harness := (true, "cc07ce23614dfe40ec211b54e1d94835c80852487f51e02eea24d186bf704eee"), looks := true }, kinds := [], alts := [], laidByText := true, laidKinds := [.data, .data, .data], laidTests := true, laidLooks := .later }
def BipolyMakesCardSaid : Prop := Claim7.holds Tryz.pinned (.plain (OpenSpec.ofChange bipolyMakesSpec)) bipolyMakesCard

/-- THE TIED CARD OF 'linkworklaw09.BipolyComputes'. -/
def bipolyComputesCard : Claim7 := { stood := { row := bipolyComputesRow, standIns := [], harness := (true, "cc07ce23614dfe40ec211b54e1d94835c80852487f51e02eea24d186bf704eee"), looks := true }, kinds := [], alts := [], laidByText := true, laidKinds := [.data, .data, .data], laidTests := true, laidLooks := .later }
def BipolyComputesCardSaid : Prop := Claim7.holds Tryz.pinned (.plain (OpenSpec.ofChange bipolyComputesSpec)) bipolyComputesCard

/-- THE TIED CARD OF 'linkworklaw09.BipolyReduces'. -/
def bipolyReducesCard : Claim7 := { stood := { row := bipolyReducesRow, standIns := [], harness := (true, "cc07ce23614dfe40ec211b54e1d94835c80852487f51e02eea24d186bf704eee"), looks := true }, kinds := [], alts := [], laidByText := true, laidKinds := [.data, .data, .data], laidTests := true, laidLooks := .later }
def BipolyReducesCardSaid : Prop := Claim7.holds Tryz.pinned (.plain (OpenSpec.ofChange bipolyReducesSpec)) bipolyReducesCard

/-- THE TIED CARD OF 'linkworklaw09.BipolyRing'. -/
def bipolyRingCard : Claim7 := { stood := { row := bipolyRingRow, standIns := [], harness := (true, "cc07ce23614dfe40ec211b54e1d94835c80852487f51e02eea24d186bf704eee"), looks := true }, kinds := [], alts := [], laidByText := true, laidKinds := [.data, .data, .data], laidTests := true, laidLooks := .later }
def BipolyRingCardSaid : Prop := Claim7.holds Tryz.pinned (.plain (OpenSpec.ofChange bipolyRingSpec)) bipolyRingCard

/-- THE TIED CARD OF 'linkworklaw09.BipolyEliminates'. -/
def bipolyEliminatesCard : Claim7 := { stood := { row := bipolyEliminatesRow, standIns := [], harness := (true, "cc07ce23614dfe40ec211b54e1d94835c80852487f51e02eea24d186bf704eee"), looks := true }, kinds := [], alts := [], laidByText := true, laidKinds := [.data, .data, .data], laidTests := true, laidLooks := .later }
def BipolyEliminatesCardSaid : Prop := Claim7.holds Tryz.pinned (.plain (OpenSpec.ofChange bipolyEliminatesSpec)) bipolyEliminatesCard

/-- THE TIED CARD OF 'linkworklaw09.BipolyFixes'. -/
def bipolyFixesCard : Claim7 := { stood := { row := bipolyFixesRow, standIns := [], harness := (true, "cc07ce23614dfe40ec211b54e1d94835c80852487f51e02eea24d186bf704eee"), looks := true }, kinds := [], alts := [], laidByText := true, laidKinds := [.data, .data, .data], laidTests := true, laidLooks := .later }
def BipolyFixesCardSaid : Prop := Claim7.holds Tryz.pinned (.plain (OpenSpec.ofChange bipolyFixesSpec)) bipolyFixesCard

/-- THE SECOND FORM's CARD OF 'linkworklaw09.BipolyTops'. -/
def bipolyTopsUptoCard : Claim7 := { stood := { row := bipolyTopsUptoRow, standIns := [], harness := (true, "cc07ce23614dfe40ec211b54e1d94835c80852487f51e02eea24d186bf704eee"), looks := true }, kinds := [], alts := [], laidByText := true, laidKinds := [.data, .data, .data], laidTests := true, laidLooks := .later }
def BipolyTopsUptoCardSaid : Prop := Claim7.holds Tryz.pinned (.plain (OpenSpec.upto bipolyTopsSpec)) bipolyTopsUptoCard

/-- THE SECOND FORM's CARD OF 'linkworklaw09.BipolyMakes'. -/
def bipolyMakesUptoCard : Claim7 := { stood := { row := bipolyMakesUptoRow, standIns := [], harness := (true, "cc07ce23614dfe40ec211b54e1d94835c80852487f51e02eea24d186bf704eee"), looks := true }, kinds := [], alts := [], laidByText := true, laidKinds := [.data, .data, .data], laidTests := true, laidLooks := .later }
def BipolyMakesUptoCardSaid : Prop := Claim7.holds Tryz.pinned (.plain (OpenSpec.upto bipolyMakesSpec)) bipolyMakesUptoCard

/-- THE SECOND FORM's CARD OF 'linkworklaw09.BipolyComputes'. -/
def bipolyComputesUptoCard : Claim7 := { stood := { row := bipolyComputesUptoRow, standIns := [], harness := (true, "cc07ce23614dfe40ec211b54e1d94835c80852487f51e02eea24d186bf704eee"), looks := true }, kinds := [], alts := [], laidByText := true, laidKinds := [.data, .data, .data], laidTests := true, laidLooks := .later }
def BipolyComputesUptoCardSaid : Prop := Claim7.holds Tryz.pinned (.plain (OpenSpec.upto bipolyComputesSpec)) bipolyComputesUptoCard

/-- THE SECOND FORM's CARD OF 'linkworklaw09.BipolyReduces'. -/
def bipolyReducesUptoCard : Claim7 := { stood := { row := bipolyReducesUptoRow, standIns := [], harness := (true, "cc07ce23614dfe40ec211b54e1d94835c80852487f51e02eea24d186bf704eee"), looks := true }, kinds := [], alts := [], laidByText := true, laidKinds := [.data, .data, .data], laidTests := true, laidLooks := .later }
def BipolyReducesUptoCardSaid : Prop := Claim7.holds Tryz.pinned (.plain (OpenSpec.upto bipolyReducesSpec)) bipolyReducesUptoCard

/-- THE SECOND FORM's CARD OF 'linkworklaw09.BipolyRing'. -/
def bipolyRingUptoCard : Claim7 := { stood := { row := bipolyRingUptoRow, standIns := [], harness := (true, "cc07ce23614dfe40ec211b54e1d94835c80852487f51e02eea24d186bf704eee"), looks := true }, kinds := [], alts := [], laidByText := true, laidKinds := [.data, .data, .data], laidTests := true, laidLooks := .later }
def BipolyRingUptoCardSaid : Prop := Claim7.holds Tryz.pinned (.plain (OpenSpec.upto bipolyRingSpec)) bipolyRingUptoCard

/-- THE SECOND FORM's CARD OF 'linkworklaw09.BipolyEliminates'. -/
def bipolyEliminatesUptoCard : Claim7 := { stood := { row := bipolyEliminatesUptoRow, standIns := [], harness := (true, "cc07ce23614dfe40ec211b54e1d94835c80852487f51e02eea24d186bf704eee"), looks := true }, kinds := [], alts := [], laidByText := true, laidKinds := [.data, .data, .data], laidTests := true, laidLooks := .later }
def BipolyEliminatesUptoCardSaid : Prop := Claim7.holds Tryz.pinned (.plain (OpenSpec.upto bipolyEliminatesSpec)) bipolyEliminatesUptoCard

/-- THE SECOND FORM's CARD OF 'linkworklaw09.BipolyFixes'. -/
def bipolyFixesUptoCard : Claim7 := { stood := { row := bipolyFixesUptoRow, standIns := [], harness := (true, "cc07ce23614dfe40ec211b54e1d94835c80852487f51e02eea24d186bf704eee"), looks := true }, kinds := [], alts := [], laidByText := true, laidKinds := [.data, .data, .data], laidTests := true, laidLooks := .later }
def BipolyFixesUptoCardSaid : Prop := Claim7.holds Tryz.pinned (.plain (OpenSpec.upto bipolyFixesSpec)) bipolyFixesUptoCard
end Rows
end Go.Proofs.YthoibmokhnoccaaGreatDoor
