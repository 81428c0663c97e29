/-
  DERIVED. GIVEN WITH THE SEED: THE CARDS: each row of YtjoohiokfkdfpaaGreatDoorRows.lean that lists a variable, with what it lists TIED to the program's text (the seventh form; the later family's looks); each row that meets fmt, with fmt's text TOLD by the authors' own Lean function (tested against real Go, not proved from fmt's source: count such statements apart). THE CARD IS WHAT COUNTS. Prove the row's statement (the work); the ties are given (YtjoohiokfkdfpaaGreatDoorTie.lean); close each card by the builder's one call (the guide's Derived/Test/ToyasCard.lean, 'card_holds'). Laid BY PROGRAM, IN A SANDBOX (cutbox-door.mjs). By AI agents, Wed Nov 11 2026. No macro, syntax, notation, axiom, sorry.
-/
import Derived.Test.YtjoohiokfkdfpaaGreatDoorRows
import GoSem.ClaimSeven
namespace Go.Proofs.YtjoohiokfkdfpaaGreatDoor
namespace Rows

/-- THE TIED CARD OF 'kinoralaw16.FrameMoved'. -/
def frameMovedCard : Claim7 := { stood := { row := frameMovedRow, standIns := [], harness := (true, "743d7f9b62e1a6e89a39bf45edc40d8a762b90350578d7fd3e7eabb1cb1042e7"), looks := false }, kinds := [], alts := [], laidByText := true, laidKinds := [.data], laidTests := true, laidLooks := .later }
def FrameMovedCardSaid : Prop := Claim7.holds Tryz.pinned (.plain (OpenSpec.ofChange frameMovedSpec)) frameMovedCard

/-- THE TIED CARD OF 'kinoralaw15.SubBests'. -/
def subBestsCard : Claim7 := { stood := { row := subBestsRow, standIns := [], harness := (true, "743d7f9b62e1a6e89a39bf45edc40d8a762b90350578d7fd3e7eabb1cb1042e7"), looks := false }, kinds := [], alts := [], laidByText := true, laidKinds := [.data], laidTests := true, laidLooks := .later }
def SubBestsCardSaid : Prop := Claim7.holds Tryz.pinned (.plain (OpenSpec.ofChange subBestsSpec)) subBestsCard

/-- THE TIED CARD OF 'kinoralaw16.FrameEffort'. -/
def frameEffortCard : Claim7 := { stood := { row := frameEffortRow, standIns := [], harness := (true, "743d7f9b62e1a6e89a39bf45edc40d8a762b90350578d7fd3e7eabb1cb1042e7"), looks := false }, kinds := [], alts := [], laidByText := true, laidKinds := [.data], laidTests := true, laidLooks := .later }
def FrameEffortCardSaid : Prop := Claim7.holds Tryz.pinned (.plain (OpenSpec.ofChange frameEffortSpec)) frameEffortCard

/-- THE TIED CARD OF 'kinoralaw15.SubAgain'. -/
def subAgainCard : Claim7 := { stood := { row := subAgainRow, standIns := [], harness := (true, "743d7f9b62e1a6e89a39bf45edc40d8a762b90350578d7fd3e7eabb1cb1042e7"), looks := false }, kinds := [], alts := [], laidByText := true, laidKinds := [.data], laidTests := true, laidLooks := .later }
def SubAgainCardSaid : Prop := Claim7.holds Tryz.pinned (.plain (OpenSpec.ofChange subAgainSpec)) subAgainCard

/-- THE TIED CARD OF 'kinoralaw16.FrameReads'. -/
def frameReadsCard : Claim7 := { stood := { row := frameReadsRow, standIns := [], harness := (true, "743d7f9b62e1a6e89a39bf45edc40d8a762b90350578d7fd3e7eabb1cb1042e7"), looks := false }, kinds := [], alts := [], laidByText := true, laidKinds := [.data], laidTests := true, laidLooks := .later }
def FrameReadsCardSaid : Prop := Claim7.holds Tryz.pinned (.plain (OpenSpec.ofChange frameReadsSpec)) frameReadsCard

/-- THE TIED CARD OF 'kinoralaw18.WaveTrack'. -/
def waveTrackCard : Claim7 := { stood := { row := waveTrackRow, standIns := [], harness := (true, "743d7f9b62e1a6e89a39bf45edc40d8a762b90350578d7fd3e7eabb1cb1042e7"), looks := false }, kinds := [], alts := [], laidByText := true, laidKinds := [.data], laidTests := true, laidLooks := .later }
def WaveTrackCardSaid : Prop := Claim7.holds Tryz.pinned (.plain (OpenSpec.ofChange waveTrackSpec)) waveTrackCard

/-- THE SECOND FORM's CARD OF 'kinoralaw16.FrameMoved'. -/
def frameMovedUptoCard : Claim7 := { stood := { row := frameMovedUptoRow, standIns := [], harness := (true, "743d7f9b62e1a6e89a39bf45edc40d8a762b90350578d7fd3e7eabb1cb1042e7"), looks := false }, kinds := [], alts := [], laidByText := true, laidKinds := [.data], laidTests := true, laidLooks := .later }
def FrameMovedUptoCardSaid : Prop := Claim7.holds Tryz.pinned (.plain (OpenSpec.upto frameMovedSpec)) frameMovedUptoCard

/-- THE SECOND FORM's CARD OF 'kinoralaw15.SubBests'. -/
def subBestsUptoCard : Claim7 := { stood := { row := subBestsUptoRow, standIns := [], harness := (true, "743d7f9b62e1a6e89a39bf45edc40d8a762b90350578d7fd3e7eabb1cb1042e7"), looks := false }, kinds := [], alts := [], laidByText := true, laidKinds := [.data], laidTests := true, laidLooks := .later }
def SubBestsUptoCardSaid : Prop := Claim7.holds Tryz.pinned (.plain (OpenSpec.upto subBestsSpec)) subBestsUptoCard

/-- THE SECOND FORM's CARD OF 'kinoralaw16.FrameEffort'. -/
def frameEffortUptoCard : Claim7 := { stood := { row := frameEffortUptoRow, standIns := [], harness := (true, "743d7f9b62e1a6e89a39bf45edc40d8a762b90350578d7fd3e7eabb1cb1042e7"), looks := false }, kinds := [], alts := [], laidByText := true, laidKinds := [.data], laidTests := true, laidLooks := .later }
def FrameEffortUptoCardSaid : Prop := Claim7.holds Tryz.pinned (.plain (OpenSpec.upto frameEffortSpec)) frameEffortUptoCard

/-- THE SECOND FORM's CARD OF 'kinoralaw15.SubAgain'. -/
def subAgainUptoCard : Claim7 := { stood := { row := subAgainUptoRow, standIns := [], harness := (true, "743d7f9b62e1a6e89a39bf45edc40d8a762b90350578d7fd3e7eabb1cb1042e7"), looks := false }, kinds := [], alts := [], laidByText := true, laidKinds := [.data], laidTests := true, laidLooks := .later }
def SubAgainUptoCardSaid : Prop := Claim7.holds Tryz.pinned (.plain (OpenSpec.upto subAgainSpec)) subAgainUptoCard

/-- THE SECOND FORM's CARD OF 'kinoralaw16.FrameReads'. -/
def frameReadsUptoCard : Claim7 := { stood := { row := frameReadsUptoRow, standIns := [], harness := (true, "743d7f9b62e1a6e89a39bf45edc40d8a762b90350578d7fd3e7eabb1cb1042e7"), looks := false }, kinds := [], alts := [], laidByText := true, laidKinds := [.data], laidTests := true, laidLooks := .later }
def FrameReadsUptoCardSaid : Prop := Claim7.holds Tryz.pinned (.plain (OpenSpec.upto frameReadsSpec)) frameReadsUptoCard

/-- THE SECOND FORM's CARD OF 'kinoralaw18.WaveTrack'. -/
def waveTrackUptoCard : Claim7 := { stood := { row := waveTrackUptoRow, standIns := [], harness := (true, "743d7f9b62e1a6e89a39bf45edc40d8a762b90350578d7fd3e7eabb1cb1042e7"), looks := false }, kinds := [], alts := [], laidByText := true, laidKinds := [.data], laidTests := true, laidLooks := .later }
def WaveTrackUptoCardSaid : Prop := Claim7.holds Tryz.pinned (.plain (OpenSpec.upto waveTrackSpec)) waveTrackUptoCard
end Rows
end Go.Proofs.YtjoohiokfkdfpaaGreatDoor
