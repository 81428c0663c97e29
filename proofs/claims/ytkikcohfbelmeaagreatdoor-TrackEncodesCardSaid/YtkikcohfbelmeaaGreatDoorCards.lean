/-
  DERIVED. GIVEN WITH THE SEED: THE CARDS: each row of YtkikcohfbelmeaaGreatDoorRows.lean that lists a variable, with what it lists TIED to the program's text (the seventh form; the later family's looks); each row that meets fmt, with fmt's text TOLD by the authors' own Lean function (tested against real Go, not proved from fmt's source: count such statements apart). THE CARD IS WHAT COUNTS. Prove the row's statement (the work); the ties are given (YtkikcohfbelmeaaGreatDoorTie.lean); close each card by the builder's one call (the guide's Derived/Test/ToyasCard.lean, 'card_holds'). Laid BY PROGRAM, IN A SANDBOX (cutbox-door.mjs). By AI agents, Wed Nov 11 2026. No macro, syntax, notation, axiom, sorry.
-/
import Derived.Test.YtkikcohfbelmeaaGreatDoorRows
import GoSem.ClaimSeven
namespace Go.Proofs.YtkikcohfbelmeaaGreatDoor
namespace Rows

/-- THE TIED CARD OF 'kinoralaw17.TrackEncodes'. -/
def trackEncodesCard : Claim7 := { stood := { row := trackEncodesRow, standIns := [], harness := (true, "0950305ed7e085f5b5dcbb8ffa0f19012a47c93155e2b13c3b6f5f11fb9a7261"), looks := false }, kinds := [], alts := [], laidByText := true, laidKinds := [.data], laidTests := true, laidLooks := .later }
def TrackEncodesCardSaid : Prop := Claim7.holds Tryz.pinned (.plain (OpenSpec.ofChange trackEncodesSpec)) trackEncodesCard

/-- THE SECOND FORM's CARD OF 'kinoralaw17.TrackEncodes'. -/
def trackEncodesUptoCard : Claim7 := { stood := { row := trackEncodesUptoRow, standIns := [], harness := (true, "0950305ed7e085f5b5dcbb8ffa0f19012a47c93155e2b13c3b6f5f11fb9a7261"), looks := false }, kinds := [], alts := [], laidByText := true, laidKinds := [.data], laidTests := true, laidLooks := .later }
def TrackEncodesUptoCardSaid : Prop := Claim7.holds Tryz.pinned (.plain (OpenSpec.upto trackEncodesSpec)) trackEncodesUptoCard
end Rows
end Go.Proofs.YtkikcohfbelmeaaGreatDoor
