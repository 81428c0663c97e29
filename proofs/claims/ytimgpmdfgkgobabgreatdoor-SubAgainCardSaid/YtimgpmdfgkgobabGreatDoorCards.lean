/-
  DERIVED. GIVEN WITH THE SEED: THE CARDS: each row of YtimgpmdfgkgobabGreatDoorRows.lean that lists a variable, with what it lists TIED to the program's text (the seventh form; the later family's looks); each row that meets fmt, with fmt's text TOLD by the authors' own Lean function (tested against real Go, not proved from fmt's source: count such statements apart). THE CARD IS WHAT COUNTS. Prove the row's statement (the work); the ties are given (YtimgpmdfgkgobabGreatDoorTie.lean); close each card by the builder's one call (the guide's Derived/Test/ToyasCard.lean, 'card_holds'). Laid BY PROGRAM, IN A SANDBOX (cutbox-door.mjs). By AI agents, Wed Nov 11 2026. No macro, syntax, notation, axiom, sorry.
-/
import Derived.Test.YtimgpmdfgkgobabGreatDoorRows
import GoSem.ClaimSeven
namespace Go.Proofs.YtimgpmdfgkgobabGreatDoor
namespace Rows

/-- THE TIED CARD OF 'kinoralaw15.SubAgain'. -/
def subAgainCard : Claim7 := { stood := { row := subAgainRow, standIns := [], harness := (true, "39e2a00b00fdd989cb0d59f7049ef9fa7923fb680b3c02c4bb4ac859154e484f"), looks := false }, kinds := [], alts := [], laidByText := true, laidKinds := [.data], laidTests := true, laidLooks := .later }
def SubAgainCardSaid : Prop := Claim7.holds Tryz.pinned (.plain (OpenSpec.ofChange subAgainSpec)) subAgainCard

/-- THE SECOND FORM's CARD OF 'kinoralaw15.SubAgain'. -/
def subAgainUptoCard : Claim7 := { stood := { row := subAgainUptoRow, standIns := [], harness := (true, "39e2a00b00fdd989cb0d59f7049ef9fa7923fb680b3c02c4bb4ac859154e484f"), looks := false }, kinds := [], alts := [], laidByText := true, laidKinds := [.data], laidTests := true, laidLooks := .later }
def SubAgainUptoCardSaid : Prop := Claim7.holds Tryz.pinned (.plain (OpenSpec.upto subAgainSpec)) subAgainUptoCard
end Rows
end Go.Proofs.YtimgpmdfgkgobabGreatDoor
