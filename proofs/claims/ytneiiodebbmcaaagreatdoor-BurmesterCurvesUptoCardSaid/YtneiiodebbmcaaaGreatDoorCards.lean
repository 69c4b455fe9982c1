/-
  DERIVED. GIVEN WITH THE SEED: THE CARDS: each row of YtneiiodebbmcaaaGreatDoorRows.lean that lists a variable, with what it lists TIED to the program's text (the seventh form; the later family's looks); each row that meets fmt, with fmt's text TOLD by the authors' own Lean function (tested against real Go, not proved from fmt's source: count such statements apart). THE CARD IS WHAT COUNTS. Prove the row's statement (the work); the ties are given (YtneiiodebbmcaaaGreatDoorTie.lean); close each card by the builder's one call (the guide's Derived/Test/ToyasCard.lean, 'card_holds'). Laid BY PROGRAM, IN A SANDBOX (cutbox-door.mjs). By AI agents, Wed Nov 11 2026. No macro, syntax, notation, axiom, sorry.
-/
import Derived.Test.YtneiiodebbmcaaaGreatDoorRows
import GoSem.ClaimSeven
namespace Go.Proofs.YtneiiodebbmcaaaGreatDoor
namespace Rows

/-- THE TIED CARD OF 'linkworklaw47.BurmesterDyads'. -/
def burmesterDyadsCard : Claim7 := { stood := { row := burmesterDyadsRow, standIns := [], harness := (true, "b12936dafcc00f5c181331af9e6f00424a3e6ca890fa9c9f37044cd66000e053"), looks := true }, kinds := [], alts := [], laidByText := true, laidKinds := [.data, .data, .data], laidTests := true, laidLooks := .later }
def BurmesterDyadsCardSaid : Prop := Claim7.holds Tryz.pinned (.plain (OpenSpec.ofChange burmesterDyadsSpec)) burmesterDyadsCard

/-- THE TIED CARD OF 'linkworklaw47.BurmesterSearches'. -/
def burmesterSearchesCard : Claim7 := { stood := { row := burmesterSearchesRow, standIns := [], harness := (true, "b12936dafcc00f5c181331af9e6f00424a3e6ca890fa9c9f37044cd66000e053"), looks := true }, kinds := [], alts := [], laidByText := true, laidKinds := [.data, .data, .data], laidTests := true, laidLooks := .later }
def BurmesterSearchesCardSaid : Prop := Claim7.holds Tryz.pinned (.plain (OpenSpec.ofChange burmesterSearchesSpec)) burmesterSearchesCard

/-- THE TIED CARD OF 'linkworklaw47.BurmesterGrid'. -/
def burmesterGridCard : Claim7 := { stood := { row := burmesterGridRow, standIns := [], harness := (true, "b12936dafcc00f5c181331af9e6f00424a3e6ca890fa9c9f37044cd66000e053"), looks := true }, kinds := [], alts := [], laidByText := true, laidKinds := [.data, .data, .data], laidTests := true, laidLooks := .later }
def BurmesterGridCardSaid : Prop := Claim7.holds Tryz.pinned (.plain (OpenSpec.ofChange burmesterGridSpec)) burmesterGridCard

/-- THE TIED CARD OF 'linkworklaw47.BurmesterCurves'. -/
def burmesterCurvesCard : Claim7 := { stood := { row := burmesterCurvesRow, standIns := [], harness := (true, "b12936dafcc00f5c181331af9e6f00424a3e6ca890fa9c9f37044cd66000e053"), looks := true }, kinds := [], alts := [], laidByText := true, laidKinds := [.data, .data, .data], laidTests := true, laidLooks := .later }
def BurmesterCurvesCardSaid : Prop := Claim7.holds Tryz.pinned (.plain (OpenSpec.ofChange burmesterCurvesSpec)) burmesterCurvesCard

/-- THE TIED CARD OF 'linkworklaw47.BurmesterPoles'. -/
def burmesterPolesCard : Claim7 := { stood := { row := burmesterPolesRow, standIns := [], harness := (true, "b12936dafcc00f5c181331af9e6f00424a3e6ca890fa9c9f37044cd66000e053"), looks := true }, kinds := [], alts := [], laidByText := true, laidKinds := [.data, .data, .data], laidTests := true, laidLooks := .later }
def BurmesterPolesCardSaid : Prop := Claim7.holds Tryz.pinned (.plain (OpenSpec.ofChange burmesterPolesSpec)) burmesterPolesCard

/-- THE SECOND FORM's CARD OF 'linkworklaw47.BurmesterDyads'. -/
def burmesterDyadsUptoCard : Claim7 := { stood := { row := burmesterDyadsUptoRow, standIns := [], harness := (true, "b12936dafcc00f5c181331af9e6f00424a3e6ca890fa9c9f37044cd66000e053"), looks := true }, kinds := [], alts := [], laidByText := true, laidKinds := [.data, .data, .data], laidTests := true, laidLooks := .later }
def BurmesterDyadsUptoCardSaid : Prop := Claim7.holds Tryz.pinned (.plain (OpenSpec.upto burmesterDyadsSpec)) burmesterDyadsUptoCard

/-- THE SECOND FORM's CARD OF 'linkworklaw47.BurmesterSearches'. -/
def burmesterSearchesUptoCard : Claim7 := { stood := { row := burmesterSearchesUptoRow, standIns := [], harness := (true, "b12936dafcc00f5c181331af9e6f00424a3e6ca890fa9c9f37044cd66000e053"), looks := true }, kinds := [], alts := [], laidByText := true, laidKinds := [.data, .data, .data], laidTests := true, laidLooks := .later }
def BurmesterSearchesUptoCardSaid : Prop := Claim7.holds Tryz.pinned (.plain (OpenSpec.upto burmesterSearchesSpec)) burmesterSearchesUptoCard

/-- THE SECOND FORM's CARD OF 'linkworklaw47.BurmesterGrid'. -/
def burmesterGridUptoCard : Claim7 := { stood := { row := burmesterGridUptoRow, standIns := [], harness := (true, "b12936dafcc00f5c181331af9e6f00424a3e6ca890fa9c9f37044cd66000e053"), looks := true }, kinds := [], alts := [], laidByText := true, laidKinds := [.data, .data, .data], laidTests := true, laidLooks := .later }
def BurmesterGridUptoCardSaid : Prop := Claim7.holds Tryz.pinned (.plain (OpenSpec.upto burmesterGridSpec)) burmesterGridUptoCard

/-- THE SECOND FORM's CARD OF 'linkworklaw47.BurmesterCurves'. -/
def burmesterCurvesUptoCard : Claim7 := { stood := { row := burmesterCurvesUptoRow, standIns := [], harness := (true, "b12936dafcc00f5c181331af9e6f00424a3e6ca890fa9c9f37044cd66000e053"), looks := true }, kinds := [], alts := [], laidByText := true, laidKinds := [.data, .data, .data], laidTests := true, laidLooks := .later }
def BurmesterCurvesUptoCardSaid : Prop := Claim7.holds Tryz.pinned (.plain (OpenSpec.upto burmesterCurvesSpec)) burmesterCurvesUptoCard

/-- THE SECOND FORM's CARD OF 'linkworklaw47.BurmesterPoles'. -/
def burmesterPolesUptoCard : Claim7 := { stood := { row := burmesterPolesUptoRow, standIns := [], harness := (true, "b12936dafcc00f5c181331af9e6f00424a3e6ca890fa9c9f37044cd66000e053"), looks := true }, kinds := [], alts := [], laidByText := true, laidKinds := [.data, .data, .data], laidTests := true, laidLooks := .later }
def BurmesterPolesUptoCardSaid : Prop := Claim7.holds Tryz.pinned (.plain (OpenSpec.upto burmesterPolesSpec)) burmesterPolesUptoCard
end Rows
end Go.Proofs.YtneiiodebbmcaaaGreatDoor
