/-
  DERIVED. GIVEN WITH THE SEED: THE CARDS: each row of YtjggkdaangghfaaGreatDoorRows.lean that lists a variable, with what it lists TIED to the program's text (the seventh form; the later family's looks); each row that meets fmt, with fmt's text TOLD by the authors' own Lean function (tested against real Go, not proved from fmt's source: count such statements apart). THE CARD IS WHAT COUNTS. Prove the row's statement (the work); the ties are given (YtjggkdaangghfaaGreatDoorTie.lean); close each card by the builder's one call (the guide's Derived/Test/ToyasCard.lean, 'card_holds'). Laid BY PROGRAM, IN A SANDBOX (cutbox-door.mjs). By AI agents, Wed Nov 11 2026. No macro, syntax, notation, axiom, sorry.
-/
import Derived.Test.YtjggkdaangghfaaGreatDoorRows
import GoSem.ClaimSeven
namespace Go.Proofs.YtjggkdaangghfaaGreatDoor
namespace Rows

/-- THE TIED CARD OF 'linkworklaw39.CognateSames'. -/
def cognateSamesCard : Claim7 := { stood := { row := cognateSamesRow, standIns := [], harness := (true, "48465b3817f185e94afd82ce9a881128f92538d415698ddea857f05d2aa3848b"), looks := true }, kinds := [], alts := [], laidByText := true, laidKinds := [.data, .data, .data], laidTests := true, laidLooks := .later }
def CognateSamesCardSaid : Prop := Claim7.holds Tryz.pinned (.plain (OpenSpec.ofChange cognateSamesSpec)) cognateSamesCard

/-- THE TIED CARD OF 'linkworklaw39.CognateMakes'. -/
def cognateMakesCard : Claim7 := { stood := { row := cognateMakesRow, standIns := [], harness := (true, "48465b3817f185e94afd82ce9a881128f92538d415698ddea857f05d2aa3848b"), looks := true }, kinds := [], alts := [], laidByText := true, laidKinds := [.data, .data, .data], laidTests := true, laidLooks := .later }
def CognateMakesCardSaid : Prop := Claim7.holds Tryz.pinned (.plain (OpenSpec.ofChange cognateMakesSpec)) cognateMakesCard

/-- THE TIED CARD OF 'linkworklaw39.CognateCurve'. -/
def cognateCurveCard : Claim7 := { stood := { row := cognateCurveRow, standIns := [], harness := (true, "48465b3817f185e94afd82ce9a881128f92538d415698ddea857f05d2aa3848b"), looks := true }, kinds := [], alts := [], laidByText := true, laidKinds := [.data, .data, .data], laidTests := true, laidLooks := .later }
def CognateCurveCardSaid : Prop := Claim7.holds Tryz.pinned (.plain (OpenSpec.ofChange cognateCurveSpec)) cognateCurveCard

/-- THE TIED CARD OF 'linkworklaw39.CognateAgain'. -/
def cognateAgainCard : Claim7 := { stood := { row := cognateAgainRow, standIns := [], harness := (true, "48465b3817f185e94afd82ce9a881128f92538d415698ddea857f05d2aa3848b"), looks := true }, kinds := [], alts := [], laidByText := true, laidKinds := [.data, .data, .data], laidTests := true, laidLooks := .later }
def CognateAgainCardSaid : Prop := Claim7.holds Tryz.pinned (.plain (OpenSpec.ofChange cognateAgainSpec)) cognateAgainCard

/-- THE TIED CARD OF 'linkworklaw39.CognateFocus'. -/
def cognateFocusCard : Claim7 := { stood := { row := cognateFocusRow, standIns := [], harness := (true, "48465b3817f185e94afd82ce9a881128f92538d415698ddea857f05d2aa3848b"), looks := true }, kinds := [], alts := [], laidByText := true, laidKinds := [.data, .data, .data], laidTests := true, laidLooks := .later }
def CognateFocusCardSaid : Prop := Claim7.holds Tryz.pinned (.plain (OpenSpec.ofChange cognateFocusSpec)) cognateFocusCard

/-- THE TIED CARD OF 'linkworklaw39.CognateLists'. -/
def cognateListsCard : Claim7 := { stood := { row := cognateListsRow, standIns := [], harness := (true, "48465b3817f185e94afd82ce9a881128f92538d415698ddea857f05d2aa3848b"), looks := true }, kinds := [], alts := [], laidByText := true, laidKinds := [.data, .data, .data], laidTests := true, laidLooks := .later }
def CognateListsCardSaid : Prop := Claim7.holds Tryz.pinned (.plain (OpenSpec.ofChange cognateListsSpec)) cognateListsCard

/-- THE TIED CARD OF 'linkworklaw39.CognateEnds'. -/
def cognateEndsCard : Claim7 := { stood := { row := cognateEndsRow, standIns := [], harness := (true, "48465b3817f185e94afd82ce9a881128f92538d415698ddea857f05d2aa3848b"), looks := true }, kinds := [], alts := [], laidByText := true, laidKinds := [.data, .data, .data], laidTests := true, laidLooks := .later }
def CognateEndsCardSaid : Prop := Claim7.holds Tryz.pinned (.plain (OpenSpec.ofChange cognateEndsSpec)) cognateEndsCard

/-- THE SECOND FORM's CARD OF 'linkworklaw39.CognateSames'. -/
def cognateSamesUptoCard : Claim7 := { stood := { row := cognateSamesUptoRow, standIns := [], harness := (true, "48465b3817f185e94afd82ce9a881128f92538d415698ddea857f05d2aa3848b"), looks := true }, kinds := [], alts := [], laidByText := true, laidKinds := [.data, .data, .data], laidTests := true, laidLooks := .later }
def CognateSamesUptoCardSaid : Prop := Claim7.holds Tryz.pinned (.plain (OpenSpec.upto cognateSamesSpec)) cognateSamesUptoCard

/-- THE SECOND FORM's CARD OF 'linkworklaw39.CognateMakes'. -/
def cognateMakesUptoCard : Claim7 := { stood := { row := cognateMakesUptoRow, standIns := [], harness := (true, "48465b3817f185e94afd82ce9a881128f92538d415698ddea857f05d2aa3848b"), looks := true }, kinds := [], alts := [], laidByText := true, laidKinds := [.data, .data, .data], laidTests := true, laidLooks := .later }
def CognateMakesUptoCardSaid : Prop := Claim7.holds Tryz.pinned (.plain (OpenSpec.upto cognateMakesSpec)) cognateMakesUptoCard

/-- THE SECOND FORM's CARD OF 'linkworklaw39.CognateCurve'. -/
def cognateCurveUptoCard : Claim7 := { stood := { row := cognateCurveUptoRow, standIns := [], harness := (true, "48465b3817f185e94afd82ce9a881128f92538d415698ddea857f05d2aa3848b"), looks := true }, kinds := [], alts := [], laidByText := true, laidKinds := [.data, .data, .data], laidTests := true, laidLooks := .later }
def CognateCurveUptoCardSaid : Prop := Claim7.holds Tryz.pinned (.plain (OpenSpec.upto cognateCurveSpec)) cognateCurveUptoCard

/-- THE SECOND FORM's CARD OF 'linkworklaw39.CognateAgain'. -/
def cognateAgainUptoCard : Claim7 := { stood := { row := cognateAgainUptoRow, standIns := [], harness := (true, "48465b3817f185e94afd82ce9a881128f92538d415698ddea857f05d2aa3848b"), looks := true }, kinds := [], alts := [], laidByText := true, laidKinds := [.data, .data, .data], laidTests := true, laidLooks := .later }
def CognateAgainUptoCardSaid : Prop := Claim7.holds Tryz.pinned (.plain (OpenSpec.upto cognateAgainSpec)) cognateAgainUptoCard

/-- THE SECOND FORM's CARD OF 'linkworklaw39.CognateFocus'. -/
def cognateFocusUptoCard : Claim7 := { stood := { row := cognateFocusUptoRow, standIns := [], harness := (true, "48465b3817f185e94afd82ce9a881128f92538d415698ddea857f05d2aa3848b"), looks := true }, kinds := [], alts := [], laidByText := true, laidKinds := [.data, .data, .data], laidTests := true, laidLooks := .later }
def CognateFocusUptoCardSaid : Prop := Claim7.holds Tryz.pinned (.plain (OpenSpec.upto cognateFocusSpec)) cognateFocusUptoCard

/-- THE SECOND FORM's CARD OF 'linkworklaw39.CognateLists'. -/
def cognateListsUptoCard : Claim7 := { stood := { row := cognateListsUptoRow, standIns := [], harness := (true, "48465b3817f185e94afd82ce9a881128f92538d415698ddea857f05d2aa3848b"), looks := true }, kinds := [], alts := [], laidByText := true, laidKinds := [.data, .data, .data], laidTests := true, laidLooks := .later }
def CognateListsUptoCardSaid : Prop := Claim7.holds Tryz.pinned (.plain (OpenSpec.upto cognateListsSpec)) cognateListsUptoCard

/-- THE SECOND FORM's CARD OF 'linkworklaw39.CognateEnds'. -/
def cognateEndsUptoCard : Claim7 := { stood := { row := cognateEndsUptoRow, standIns := [], harness := (true, "48465b3817f185e94afd82ce9a881128f92538d415698ddea857f05d2aa3848b"), looks := true }, kinds := [], alts := [], laidByText := true, laidKinds := [.data, .data, .data], laidTests := true, laidLooks := .later }
def CognateEndsUptoCardSaid : Prop := Claim7.holds Tryz.pinned (.plain (OpenSpec.upto cognateEndsSpec)) cognateEndsUptoCard
end Rows
end Go.Proofs.YtjggkdaangghfaaGreatDoor
