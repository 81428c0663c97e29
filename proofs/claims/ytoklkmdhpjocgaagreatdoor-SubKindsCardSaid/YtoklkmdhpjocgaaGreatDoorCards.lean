/-
  DERIVED. GIVEN WITH THE SEED: THE CARDS: each row of YtoklkmdhpjocgaaGreatDoorRows.lean that lists a variable, with what it lists TIED to the program's text (the seventh form; the later family's looks); each row that meets fmt, with fmt's text TOLD by the authors' own Lean function (tested against real Go, not proved from fmt's source: count such statements apart). THE CARD IS WHAT COUNTS. Prove the row's statement (the work); the ties are given (YtoklkmdhpjocgaaGreatDoorTie.lean); close each card by the builder's one call (the guide's Derived/Test/ToyasCard.lean, 'card_holds'). Laid BY PROGRAM, IN A SANDBOX (cutbox-door.mjs). By AI agents, Wed Nov 11 2026. No macro, syntax, notation, axiom, sorry.
-/
import Derived.Test.YtoklkmdhpjocgaaGreatDoorRows
import GoSem.ClaimSeven
namespace Go.Proofs.YtoklkmdhpjocgaaGreatDoor
namespace Rows

/-- THE TIED CARD OF 'kinoralaw15.SubTells'. -/
def subTellsCard : Claim7 := { stood := { row := subTellsRow, standIns := [], harness := (true, "f81a571e8e986464aad29f801dbafe427b6d58da40159403b74d5b143a358265"), looks := false }, kinds := [], alts := [], laidByText := true, laidKinds := [.data], laidTests := true, laidLooks := .later }
def SubTellsCardSaid : Prop := Claim7.holds Tryz.pinned (.plain (OpenSpec.ofChange subTellsSpec)) subTellsCard

/-- THE TIED CARD OF 'kinoralaw15.SubBests'. -/
def subBestsCard : Claim7 := { stood := { row := subBestsRow, standIns := [], harness := (true, "f81a571e8e986464aad29f801dbafe427b6d58da40159403b74d5b143a358265"), looks := false }, kinds := [], alts := [], laidByText := true, laidKinds := [.data], laidTests := true, laidLooks := .later }
def SubBestsCardSaid : Prop := Claim7.holds Tryz.pinned (.plain (OpenSpec.ofChange subBestsSpec)) subBestsCard

/-- THE TIED CARD OF 'kinoralaw15.SubShifts'. -/
def subShiftsCard : Claim7 := { stood := { row := subShiftsRow, standIns := [], harness := (true, "f81a571e8e986464aad29f801dbafe427b6d58da40159403b74d5b143a358265"), looks := false }, kinds := [], alts := [], laidByText := true, laidKinds := [.data], laidTests := true, laidLooks := .later }
def SubShiftsCardSaid : Prop := Claim7.holds Tryz.pinned (.plain (OpenSpec.ofChange subShiftsSpec)) subShiftsCard

/-- THE TIED CARD OF 'kinoralaw15.SubAgain'. -/
def subAgainCard : Claim7 := { stood := { row := subAgainRow, standIns := [], harness := (true, "f81a571e8e986464aad29f801dbafe427b6d58da40159403b74d5b143a358265"), looks := false }, kinds := [], alts := [], laidByText := true, laidKinds := [.data], laidTests := true, laidLooks := .later }
def SubAgainCardSaid : Prop := Claim7.holds Tryz.pinned (.plain (OpenSpec.ofChange subAgainSpec)) subAgainCard

/-- THE TIED CARD OF 'kinoralaw15.SubPuts'. -/
def subPutsCard : Claim7 := { stood := { row := subPutsRow, standIns := [], harness := (true, "f81a571e8e986464aad29f801dbafe427b6d58da40159403b74d5b143a358265"), looks := false }, kinds := [], alts := [], laidByText := true, laidKinds := [.data], laidTests := true, laidLooks := .later }
def SubPutsCardSaid : Prop := Claim7.holds Tryz.pinned (.plain (OpenSpec.ofChange subPutsSpec)) subPutsCard

/-- THE TIED CARD OF 'kinoralaw15.SubKinds'. -/
def subKindsCard : Claim7 := { stood := { row := subKindsRow, standIns := [], harness := (true, "f81a571e8e986464aad29f801dbafe427b6d58da40159403b74d5b143a358265"), looks := false }, kinds := [], alts := [], laidByText := true, laidKinds := [.data], laidTests := true, laidLooks := .later }
def SubKindsCardSaid : Prop := Claim7.holds Tryz.pinned (.plain (OpenSpec.ofChange subKindsSpec)) subKindsCard

/-- THE TIED CARD OF 'kinoralaw15.SubBack'. -/
def subBackCard : Claim7 := { stood := { row := subBackRow, standIns := [], harness := (true, "f81a571e8e986464aad29f801dbafe427b6d58da40159403b74d5b143a358265"), looks := false }, kinds := [], alts := [], laidByText := true, laidKinds := [.data], laidTests := true, laidLooks := .later }
def SubBackCardSaid : Prop := Claim7.holds Tryz.pinned (.plain (OpenSpec.ofChange subBackSpec)) subBackCard

/-- THE SECOND FORM's CARD OF 'kinoralaw15.SubTells'. -/
def subTellsUptoCard : Claim7 := { stood := { row := subTellsUptoRow, standIns := [], harness := (true, "f81a571e8e986464aad29f801dbafe427b6d58da40159403b74d5b143a358265"), looks := false }, kinds := [], alts := [], laidByText := true, laidKinds := [.data], laidTests := true, laidLooks := .later }
def SubTellsUptoCardSaid : Prop := Claim7.holds Tryz.pinned (.plain (OpenSpec.upto subTellsSpec)) subTellsUptoCard

/-- THE SECOND FORM's CARD OF 'kinoralaw15.SubBests'. -/
def subBestsUptoCard : Claim7 := { stood := { row := subBestsUptoRow, standIns := [], harness := (true, "f81a571e8e986464aad29f801dbafe427b6d58da40159403b74d5b143a358265"), looks := false }, kinds := [], alts := [], laidByText := true, laidKinds := [.data], laidTests := true, laidLooks := .later }
def SubBestsUptoCardSaid : Prop := Claim7.holds Tryz.pinned (.plain (OpenSpec.upto subBestsSpec)) subBestsUptoCard

/-- THE SECOND FORM's CARD OF 'kinoralaw15.SubShifts'. -/
def subShiftsUptoCard : Claim7 := { stood := { row := subShiftsUptoRow, standIns := [], harness := (true, "f81a571e8e986464aad29f801dbafe427b6d58da40159403b74d5b143a358265"), looks := false }, kinds := [], alts := [], laidByText := true, laidKinds := [.data], laidTests := true, laidLooks := .later }
def SubShiftsUptoCardSaid : Prop := Claim7.holds Tryz.pinned (.plain (OpenSpec.upto subShiftsSpec)) subShiftsUptoCard

/-- THE SECOND FORM's CARD OF 'kinoralaw15.SubAgain'. -/
def subAgainUptoCard : Claim7 := { stood := { row := subAgainUptoRow, standIns := [], harness := (true, "f81a571e8e986464aad29f801dbafe427b6d58da40159403b74d5b143a358265"), looks := false }, kinds := [], alts := [], laidByText := true, laidKinds := [.data], laidTests := true, laidLooks := .later }
def SubAgainUptoCardSaid : Prop := Claim7.holds Tryz.pinned (.plain (OpenSpec.upto subAgainSpec)) subAgainUptoCard

/-- THE SECOND FORM's CARD OF 'kinoralaw15.SubPuts'. -/
def subPutsUptoCard : Claim7 := { stood := { row := subPutsUptoRow, standIns := [], harness := (true, "f81a571e8e986464aad29f801dbafe427b6d58da40159403b74d5b143a358265"), looks := false }, kinds := [], alts := [], laidByText := true, laidKinds := [.data], laidTests := true, laidLooks := .later }
def SubPutsUptoCardSaid : Prop := Claim7.holds Tryz.pinned (.plain (OpenSpec.upto subPutsSpec)) subPutsUptoCard

/-- THE SECOND FORM's CARD OF 'kinoralaw15.SubKinds'. -/
def subKindsUptoCard : Claim7 := { stood := { row := subKindsUptoRow, standIns := [], harness := (true, "f81a571e8e986464aad29f801dbafe427b6d58da40159403b74d5b143a358265"), looks := false }, kinds := [], alts := [], laidByText := true, laidKinds := [.data], laidTests := true, laidLooks := .later }
def SubKindsUptoCardSaid : Prop := Claim7.holds Tryz.pinned (.plain (OpenSpec.upto subKindsSpec)) subKindsUptoCard

/-- THE SECOND FORM's CARD OF 'kinoralaw15.SubBack'. -/
def subBackUptoCard : Claim7 := { stood := { row := subBackUptoRow, standIns := [], harness := (true, "f81a571e8e986464aad29f801dbafe427b6d58da40159403b74d5b143a358265"), looks := false }, kinds := [], alts := [], laidByText := true, laidKinds := [.data], laidTests := true, laidLooks := .later }
def SubBackUptoCardSaid : Prop := Claim7.holds Tryz.pinned (.plain (OpenSpec.upto subBackSpec)) subBackUptoCard
end Rows
end Go.Proofs.YtoklkmdhpjocgaaGreatDoor
