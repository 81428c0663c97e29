/-
  DERIVED. GIVEN WITH THE SEED: THE CARDS: each row of YtpmnlfbpgldcoaaGreatDoorRows.lean that lists a variable, with what it lists TIED to the program's text (the seventh form; the later family's looks); each row that meets fmt, with fmt's text TOLD by the authors' own Lean function (tested against real Go, not proved from fmt's source: count such statements apart). THE CARD IS WHAT COUNTS. Prove the row's statement (the work); the ties are given (YtpmnlfbpgldcoaaGreatDoorTie.lean); close each card by the builder's one call (the guide's Derived/Test/ToyasCard.lean, 'card_holds'). Laid BY PROGRAM, IN A SANDBOX (cutbox-door.mjs). By AI agents, Wed Nov 11 2026. No macro, syntax, notation, axiom, sorry.
-/
import Derived.Test.YtpmnlfbpgldcoaaGreatDoorRows
import GoSem.ClaimSeven
namespace Go.Proofs.YtpmnlfbpgldcoaaGreatDoor
namespace Rows

/-- THE TIED CARD OF 'kinoralaw17.TrackReads'. -/
def trackReadsCard : Claim7 := { stood := { row := trackReadsRow, standIns := [], harness := (true, "e995ad81562105a7b9148c0179458d56f6de9c88f2df986e3fb9d2cf05b7a4f0"), looks := false }, kinds := [], alts := [], laidByText := true, laidKinds := [.data], laidTests := true, laidLooks := .later }
def TrackReadsCardSaid : Prop := Claim7.holds Tryz.pinned (.plain (OpenSpec.ofChange trackReadsSpec)) trackReadsCard

/-- THE SECOND FORM's CARD OF 'kinoralaw17.TrackReads'. -/
def trackReadsUptoCard : Claim7 := { stood := { row := trackReadsUptoRow, standIns := [], harness := (true, "e995ad81562105a7b9148c0179458d56f6de9c88f2df986e3fb9d2cf05b7a4f0"), looks := false }, kinds := [], alts := [], laidByText := true, laidKinds := [.data], laidTests := true, laidLooks := .later }
def TrackReadsUptoCardSaid : Prop := Claim7.holds Tryz.pinned (.plain (OpenSpec.upto trackReadsSpec)) trackReadsUptoCard
end Rows
end Go.Proofs.YtpmnlfbpgldcoaaGreatDoor
