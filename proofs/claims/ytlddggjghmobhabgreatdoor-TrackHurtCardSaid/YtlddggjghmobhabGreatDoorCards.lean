/-
  DERIVED. GIVEN WITH THE SEED: THE CARDS: each row of YtlddggjghmobhabGreatDoorRows.lean that lists a variable, with what it lists TIED to the program's text (the seventh form; the later family's looks); each row that meets fmt, with fmt's text TOLD by the authors' own Lean function (tested against real Go, not proved from fmt's source: count such statements apart). THE CARD IS WHAT COUNTS. Prove the row's statement (the work); the ties are given (YtlddggjghmobhabGreatDoorTie.lean); close each card by the builder's one call (the guide's Derived/Test/ToyasCard.lean, 'card_holds'). Laid BY PROGRAM, IN A SANDBOX (cutbox-door.mjs). By AI agents, Wed Nov 11 2026. No macro, syntax, notation, axiom, sorry.
-/
import Derived.Test.YtlddggjghmobhabGreatDoorRows
import GoSem.ClaimSeven
namespace Go.Proofs.YtlddggjghmobhabGreatDoor
namespace Rows

/-- THE TIED CARD OF 'kinoralaw17.TrackHurt'. -/
def trackHurtCard : Claim7 := { stood := { row := trackHurtRow, standIns := [], harness := (true, "d69474b5906d1532afedbfa3ca3f5fd96c40b913f080cd6967164314683b4bce"), looks := false }, kinds := [], alts := [], laidByText := true, laidKinds := [.data], laidTests := true, laidLooks := .later }
def TrackHurtCardSaid : Prop := Claim7.holds Tryz.pinned (.plain (OpenSpec.ofChange trackHurtSpec)) trackHurtCard

/-- THE SECOND FORM's CARD OF 'kinoralaw17.TrackHurt'. -/
def trackHurtUptoCard : Claim7 := { stood := { row := trackHurtUptoRow, standIns := [], harness := (true, "d69474b5906d1532afedbfa3ca3f5fd96c40b913f080cd6967164314683b4bce"), looks := false }, kinds := [], alts := [], laidByText := true, laidKinds := [.data], laidTests := true, laidLooks := .later }
def TrackHurtUptoCardSaid : Prop := Claim7.holds Tryz.pinned (.plain (OpenSpec.upto trackHurtSpec)) trackHurtUptoCard
end Rows
end Go.Proofs.YtlddggjghmobhabGreatDoor
