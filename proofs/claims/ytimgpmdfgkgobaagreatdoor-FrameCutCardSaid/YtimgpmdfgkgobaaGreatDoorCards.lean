/-
  DERIVED. GIVEN WITH THE SEED: THE CARDS: each row of YtimgpmdfgkgobaaGreatDoorRows.lean that lists a variable, with what it lists TIED to the program's text (the seventh form; the later family's looks); each row that meets fmt, with fmt's text TOLD by the authors' own Lean function (tested against real Go, not proved from fmt's source: count such statements apart). THE CARD IS WHAT COUNTS. Prove the row's statement (the work); the ties are given (YtimgpmdfgkgobaaGreatDoorTie.lean); close each card by the builder's one call (the guide's Derived/Test/ToyasCard.lean, 'card_holds'). Laid BY PROGRAM, IN A SANDBOX (cutbox-door.mjs). By AI agents, Wed Nov 11 2026. No macro, syntax, notation, axiom, sorry.
-/
import Derived.Test.YtimgpmdfgkgobaaGreatDoorRows
import GoSem.ClaimSeven
namespace Go.Proofs.YtimgpmdfgkgobaaGreatDoor
namespace Rows

/-- THE TIED CARD OF 'kinoralaw16.FrameTells'. -/
def frameTellsCard : Claim7 := { stood := { row := frameTellsRow, standIns := [], harness := (true, "43a63db85aceb10d325ddd1a803cfe9a208ec57f4ac4d131bcd74fa7f6fd293e"), looks := false }, kinds := [], alts := [], laidByText := true, laidKinds := [.data], laidTests := true, laidLooks := .later }
def FrameTellsCardSaid : Prop := Claim7.holds Tryz.pinned (.plain (OpenSpec.ofChange frameTellsSpec)) frameTellsCard

/-- THE TIED CARD OF 'kinoralaw16.FrameReads'. -/
def frameReadsCard : Claim7 := { stood := { row := frameReadsRow, standIns := [], harness := (true, "43a63db85aceb10d325ddd1a803cfe9a208ec57f4ac4d131bcd74fa7f6fd293e"), looks := false }, kinds := [], alts := [], laidByText := true, laidKinds := [.data], laidTests := true, laidLooks := .later }
def FrameReadsCardSaid : Prop := Claim7.holds Tryz.pinned (.plain (OpenSpec.ofChange frameReadsSpec)) frameReadsCard

/-- THE TIED CARD OF 'kinoralaw16.FrameMakes'. -/
def frameMakesCard : Claim7 := { stood := { row := frameMakesRow, standIns := [], harness := (true, "43a63db85aceb10d325ddd1a803cfe9a208ec57f4ac4d131bcd74fa7f6fd293e"), looks := false }, kinds := [], alts := [], laidByText := true, laidKinds := [.data], laidTests := true, laidLooks := .later }
def FrameMakesCardSaid : Prop := Claim7.holds Tryz.pinned (.plain (OpenSpec.ofChange frameMakesSpec)) frameMakesCard

/-- THE TIED CARD OF 'kinoralaw16.FrameAny'. -/
def frameAnyCard : Claim7 := { stood := { row := frameAnyRow, standIns := [], harness := (true, "43a63db85aceb10d325ddd1a803cfe9a208ec57f4ac4d131bcd74fa7f6fd293e"), looks := false }, kinds := [], alts := [], laidByText := true, laidKinds := [.data], laidTests := true, laidLooks := .later }
def FrameAnyCardSaid : Prop := Claim7.holds Tryz.pinned (.plain (OpenSpec.ofChange frameAnySpec)) frameAnyCard

/-- THE TIED CARD OF 'kinoralaw16.FrameBack'. -/
def frameBackCard : Claim7 := { stood := { row := frameBackRow, standIns := [], harness := (true, "43a63db85aceb10d325ddd1a803cfe9a208ec57f4ac4d131bcd74fa7f6fd293e"), looks := false }, kinds := [], alts := [], laidByText := true, laidKinds := [.data], laidTests := true, laidLooks := .later }
def FrameBackCardSaid : Prop := Claim7.holds Tryz.pinned (.plain (OpenSpec.ofChange frameBackSpec)) frameBackCard

/-- THE TIED CARD OF 'kinoralaw16.FrameTurned'. -/
def frameTurnedCard : Claim7 := { stood := { row := frameTurnedRow, standIns := [], harness := (true, "43a63db85aceb10d325ddd1a803cfe9a208ec57f4ac4d131bcd74fa7f6fd293e"), looks := false }, kinds := [], alts := [], laidByText := true, laidKinds := [.data], laidTests := true, laidLooks := .later }
def FrameTurnedCardSaid : Prop := Claim7.holds Tryz.pinned (.plain (OpenSpec.ofChange frameTurnedSpec)) frameTurnedCard

/-- THE TIED CARD OF 'kinoralaw16.FrameCut'. -/
def frameCutCard : Claim7 := { stood := { row := frameCutRow, standIns := [], harness := (true, "43a63db85aceb10d325ddd1a803cfe9a208ec57f4ac4d131bcd74fa7f6fd293e"), looks := false }, kinds := [], alts := [], laidByText := true, laidKinds := [.data], laidTests := true, laidLooks := .later }
def FrameCutCardSaid : Prop := Claim7.holds Tryz.pinned (.plain (OpenSpec.ofChange frameCutSpec)) frameCutCard

/-- THE TIED CARD OF 'kinoralaw16.FrameEffort'. -/
def frameEffortCard : Claim7 := { stood := { row := frameEffortRow, standIns := [], harness := (true, "43a63db85aceb10d325ddd1a803cfe9a208ec57f4ac4d131bcd74fa7f6fd293e"), looks := false }, kinds := [], alts := [], laidByText := true, laidKinds := [.data], laidTests := true, laidLooks := .later }
def FrameEffortCardSaid : Prop := Claim7.holds Tryz.pinned (.plain (OpenSpec.ofChange frameEffortSpec)) frameEffortCard

/-- THE TIED CARD OF 'kinoralaw16.FrameRoom'. -/
def frameRoomCard : Claim7 := { stood := { row := frameRoomRow, standIns := [], harness := (true, "43a63db85aceb10d325ddd1a803cfe9a208ec57f4ac4d131bcd74fa7f6fd293e"), looks := false }, kinds := [], alts := [], laidByText := true, laidKinds := [.data], laidTests := true, laidLooks := .later }
def FrameRoomCardSaid : Prop := Claim7.holds Tryz.pinned (.plain (OpenSpec.ofChange frameRoomSpec)) frameRoomCard

/-- THE TIED CARD OF 'kinoralaw16.FramePart'. -/
def framePartCard : Claim7 := { stood := { row := framePartRow, standIns := [], harness := (true, "43a63db85aceb10d325ddd1a803cfe9a208ec57f4ac4d131bcd74fa7f6fd293e"), looks := false }, kinds := [], alts := [], laidByText := true, laidKinds := [.data], laidTests := true, laidLooks := .later }
def FramePartCardSaid : Prop := Claim7.holds Tryz.pinned (.plain (OpenSpec.ofChange framePartSpec)) framePartCard

/-- THE TIED CARD OF 'kinoralaw16.FrameMoved'. -/
def frameMovedCard : Claim7 := { stood := { row := frameMovedRow, standIns := [], harness := (true, "43a63db85aceb10d325ddd1a803cfe9a208ec57f4ac4d131bcd74fa7f6fd293e"), looks := false }, kinds := [], alts := [], laidByText := true, laidKinds := [.data], laidTests := true, laidLooks := .later }
def FrameMovedCardSaid : Prop := Claim7.holds Tryz.pinned (.plain (OpenSpec.ofChange frameMovedSpec)) frameMovedCard

/-- THE TIED CARD OF 'kinoralaw15.SubBests'. -/
def subBestsCard : Claim7 := { stood := { row := subBestsRow, standIns := [], harness := (true, "43a63db85aceb10d325ddd1a803cfe9a208ec57f4ac4d131bcd74fa7f6fd293e"), looks := false }, kinds := [], alts := [], laidByText := true, laidKinds := [.data], laidTests := true, laidLooks := .later }
def SubBestsCardSaid : Prop := Claim7.holds Tryz.pinned (.plain (OpenSpec.ofChange subBestsSpec)) subBestsCard

/-- THE SECOND FORM's CARD OF 'kinoralaw16.FrameTells'. -/
def frameTellsUptoCard : Claim7 := { stood := { row := frameTellsUptoRow, standIns := [], harness := (true, "43a63db85aceb10d325ddd1a803cfe9a208ec57f4ac4d131bcd74fa7f6fd293e"), looks := false }, kinds := [], alts := [], laidByText := true, laidKinds := [.data], laidTests := true, laidLooks := .later }
def FrameTellsUptoCardSaid : Prop := Claim7.holds Tryz.pinned (.plain (OpenSpec.upto frameTellsSpec)) frameTellsUptoCard

/-- THE SECOND FORM's CARD OF 'kinoralaw16.FrameReads'. -/
def frameReadsUptoCard : Claim7 := { stood := { row := frameReadsUptoRow, standIns := [], harness := (true, "43a63db85aceb10d325ddd1a803cfe9a208ec57f4ac4d131bcd74fa7f6fd293e"), looks := false }, kinds := [], alts := [], laidByText := true, laidKinds := [.data], laidTests := true, laidLooks := .later }
def FrameReadsUptoCardSaid : Prop := Claim7.holds Tryz.pinned (.plain (OpenSpec.upto frameReadsSpec)) frameReadsUptoCard

/-- THE SECOND FORM's CARD OF 'kinoralaw16.FrameMakes'. -/
def frameMakesUptoCard : Claim7 := { stood := { row := frameMakesUptoRow, standIns := [], harness := (true, "43a63db85aceb10d325ddd1a803cfe9a208ec57f4ac4d131bcd74fa7f6fd293e"), looks := false }, kinds := [], alts := [], laidByText := true, laidKinds := [.data], laidTests := true, laidLooks := .later }
def FrameMakesUptoCardSaid : Prop := Claim7.holds Tryz.pinned (.plain (OpenSpec.upto frameMakesSpec)) frameMakesUptoCard

/-- THE SECOND FORM's CARD OF 'kinoralaw16.FrameAny'. -/
def frameAnyUptoCard : Claim7 := { stood := { row := frameAnyUptoRow, standIns := [], harness := (true, "43a63db85aceb10d325ddd1a803cfe9a208ec57f4ac4d131bcd74fa7f6fd293e"), looks := false }, kinds := [], alts := [], laidByText := true, laidKinds := [.data], laidTests := true, laidLooks := .later }
def FrameAnyUptoCardSaid : Prop := Claim7.holds Tryz.pinned (.plain (OpenSpec.upto frameAnySpec)) frameAnyUptoCard

/-- THE SECOND FORM's CARD OF 'kinoralaw16.FrameBack'. -/
def frameBackUptoCard : Claim7 := { stood := { row := frameBackUptoRow, standIns := [], harness := (true, "43a63db85aceb10d325ddd1a803cfe9a208ec57f4ac4d131bcd74fa7f6fd293e"), looks := false }, kinds := [], alts := [], laidByText := true, laidKinds := [.data], laidTests := true, laidLooks := .later }
def FrameBackUptoCardSaid : Prop := Claim7.holds Tryz.pinned (.plain (OpenSpec.upto frameBackSpec)) frameBackUptoCard

/-- THE SECOND FORM's CARD OF 'kinoralaw16.FrameTurned'. -/
def frameTurnedUptoCard : Claim7 := { stood := { row := frameTurnedUptoRow, standIns := [], harness := (true, "43a63db85aceb10d325ddd1a803cfe9a208ec57f4ac4d131bcd74fa7f6fd293e"), looks := false }, kinds := [], alts := [], laidByText := true, laidKinds := [.data], laidTests := true, laidLooks := .later }
def FrameTurnedUptoCardSaid : Prop := Claim7.holds Tryz.pinned (.plain (OpenSpec.upto frameTurnedSpec)) frameTurnedUptoCard

/-- THE SECOND FORM's CARD OF 'kinoralaw16.FrameCut'. -/
def frameCutUptoCard : Claim7 := { stood := { row := frameCutUptoRow, standIns := [], harness := (true, "43a63db85aceb10d325ddd1a803cfe9a208ec57f4ac4d131bcd74fa7f6fd293e"), looks := false }, kinds := [], alts := [], laidByText := true, laidKinds := [.data], laidTests := true, laidLooks := .later }
def FrameCutUptoCardSaid : Prop := Claim7.holds Tryz.pinned (.plain (OpenSpec.upto frameCutSpec)) frameCutUptoCard

/-- THE SECOND FORM's CARD OF 'kinoralaw16.FrameEffort'. -/
def frameEffortUptoCard : Claim7 := { stood := { row := frameEffortUptoRow, standIns := [], harness := (true, "43a63db85aceb10d325ddd1a803cfe9a208ec57f4ac4d131bcd74fa7f6fd293e"), looks := false }, kinds := [], alts := [], laidByText := true, laidKinds := [.data], laidTests := true, laidLooks := .later }
def FrameEffortUptoCardSaid : Prop := Claim7.holds Tryz.pinned (.plain (OpenSpec.upto frameEffortSpec)) frameEffortUptoCard

/-- THE SECOND FORM's CARD OF 'kinoralaw16.FrameRoom'. -/
def frameRoomUptoCard : Claim7 := { stood := { row := frameRoomUptoRow, standIns := [], harness := (true, "43a63db85aceb10d325ddd1a803cfe9a208ec57f4ac4d131bcd74fa7f6fd293e"), looks := false }, kinds := [], alts := [], laidByText := true, laidKinds := [.data], laidTests := true, laidLooks := .later }
def FrameRoomUptoCardSaid : Prop := Claim7.holds Tryz.pinned (.plain (OpenSpec.upto frameRoomSpec)) frameRoomUptoCard

/-- THE SECOND FORM's CARD OF 'kinoralaw16.FramePart'. -/
def framePartUptoCard : Claim7 := { stood := { row := framePartUptoRow, standIns := [], harness := (true, "43a63db85aceb10d325ddd1a803cfe9a208ec57f4ac4d131bcd74fa7f6fd293e"), looks := false }, kinds := [], alts := [], laidByText := true, laidKinds := [.data], laidTests := true, laidLooks := .later }
def FramePartUptoCardSaid : Prop := Claim7.holds Tryz.pinned (.plain (OpenSpec.upto framePartSpec)) framePartUptoCard

/-- THE SECOND FORM's CARD OF 'kinoralaw16.FrameMoved'. -/
def frameMovedUptoCard : Claim7 := { stood := { row := frameMovedUptoRow, standIns := [], harness := (true, "43a63db85aceb10d325ddd1a803cfe9a208ec57f4ac4d131bcd74fa7f6fd293e"), looks := false }, kinds := [], alts := [], laidByText := true, laidKinds := [.data], laidTests := true, laidLooks := .later }
def FrameMovedUptoCardSaid : Prop := Claim7.holds Tryz.pinned (.plain (OpenSpec.upto frameMovedSpec)) frameMovedUptoCard

/-- THE SECOND FORM's CARD OF 'kinoralaw15.SubBests'. -/
def subBestsUptoCard : Claim7 := { stood := { row := subBestsUptoRow, standIns := [], harness := (true, "43a63db85aceb10d325ddd1a803cfe9a208ec57f4ac4d131bcd74fa7f6fd293e"), looks := false }, kinds := [], alts := [], laidByText := true, laidKinds := [.data], laidTests := true, laidLooks := .later }
def SubBestsUptoCardSaid : Prop := Claim7.holds Tryz.pinned (.plain (OpenSpec.upto subBestsSpec)) subBestsUptoCard
end Rows
end Go.Proofs.YtimgpmdfgkgobaaGreatDoor
