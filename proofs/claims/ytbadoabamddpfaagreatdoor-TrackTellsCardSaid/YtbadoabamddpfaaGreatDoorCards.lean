/-
  DERIVED. GIVEN WITH THE SEED: THE CARDS: each row of YtbadoabamddpfaaGreatDoorRows.lean that lists a variable, with what it lists TIED to the program's text (the seventh form; the later family's looks); each row that meets fmt, with fmt's text TOLD by the authors' own Lean function (tested against real Go, not proved from fmt's source: count such statements apart). THE CARD IS WHAT COUNTS. Prove the row's statement (the work); the ties are given (YtbadoabamddpfaaGreatDoorTie.lean); close each card by the builder's one call (the guide's Derived/Test/ToyasCard.lean, 'card_holds'). Laid BY PROGRAM, IN A SANDBOX (cutbox-door.mjs). By AI agents, Wed Nov 11 2026. No macro, syntax, notation, axiom, sorry.
-/
import Derived.Test.YtbadoabamddpfaaGreatDoorRows
import GoSem.ClaimSeven
namespace Go.Proofs.YtbadoabamddpfaaGreatDoor
namespace Rows

/-- THE TIED CARD OF 'kinoralaw16.FrameTurned'. -/
def frameTurnedCard : Claim7 := { stood := { row := frameTurnedRow, standIns := [], harness := (true, "f58e910a06a1501eb8767231f9fb86f292a702a9c05d864ab6d18b8654061ddd"), looks := false }, kinds := [], alts := [], laidByText := true, laidKinds := [.data], laidTests := true, laidLooks := .later }
def FrameTurnedCardSaid : Prop := Claim7.holds Tryz.pinned (.plain (OpenSpec.ofChange frameTurnedSpec)) frameTurnedCard

/-- THE TIED CARD OF 'kinoralaw16.FrameRoom'. -/
def frameRoomCard : Claim7 := { stood := { row := frameRoomRow, standIns := [], harness := (true, "f58e910a06a1501eb8767231f9fb86f292a702a9c05d864ab6d18b8654061ddd"), looks := false }, kinds := [], alts := [], laidByText := true, laidKinds := [.data], laidTests := true, laidLooks := .later }
def FrameRoomCardSaid : Prop := Claim7.holds Tryz.pinned (.plain (OpenSpec.ofChange frameRoomSpec)) frameRoomCard

/-- THE TIED CARD OF 'kinoralaw16.FrameMakes'. -/
def frameMakesCard : Claim7 := { stood := { row := frameMakesRow, standIns := [], harness := (true, "f58e910a06a1501eb8767231f9fb86f292a702a9c05d864ab6d18b8654061ddd"), looks := false }, kinds := [], alts := [], laidByText := true, laidKinds := [.data], laidTests := true, laidLooks := .later }
def FrameMakesCardSaid : Prop := Claim7.holds Tryz.pinned (.plain (OpenSpec.ofChange frameMakesSpec)) frameMakesCard

/-- THE TIED CARD OF 'kinoralaw17.TrackTells'. -/
def trackTellsCard : Claim7 := { stood := { row := trackTellsRow, standIns := [], harness := (true, "f58e910a06a1501eb8767231f9fb86f292a702a9c05d864ab6d18b8654061ddd"), looks := false }, kinds := [], alts := [], laidByText := true, laidKinds := [.data], laidTests := true, laidLooks := .later }
def TrackTellsCardSaid : Prop := Claim7.holds Tryz.pinned (.plain (OpenSpec.ofChange trackTellsSpec)) trackTellsCard

/-- THE TIED CARD OF 'kinoralaw17.TrackEncodes'. -/
def trackEncodesCard : Claim7 := { stood := { row := trackEncodesRow, standIns := [], harness := (true, "f58e910a06a1501eb8767231f9fb86f292a702a9c05d864ab6d18b8654061ddd"), looks := false }, kinds := [], alts := [], laidByText := true, laidKinds := [.data], laidTests := true, laidLooks := .later }
def TrackEncodesCardSaid : Prop := Claim7.holds Tryz.pinned (.plain (OpenSpec.ofChange trackEncodesSpec)) trackEncodesCard

/-- THE TIED CARD OF 'kinoralaw17.TrackBack'. -/
def trackBackCard : Claim7 := { stood := { row := trackBackRow, standIns := [], harness := (true, "f58e910a06a1501eb8767231f9fb86f292a702a9c05d864ab6d18b8654061ddd"), looks := false }, kinds := [], alts := [], laidByText := true, laidKinds := [.data], laidTests := true, laidLooks := .later }
def TrackBackCardSaid : Prop := Claim7.holds Tryz.pinned (.plain (OpenSpec.ofChange trackBackSpec)) trackBackCard

/-- THE TIED CARD OF 'kinoralaw17.TrackSeeks'. -/
def trackSeeksCard : Claim7 := { stood := { row := trackSeeksRow, standIns := [], harness := (true, "f58e910a06a1501eb8767231f9fb86f292a702a9c05d864ab6d18b8654061ddd"), looks := false }, kinds := [], alts := [], laidByText := true, laidKinds := [.data], laidTests := true, laidLooks := .later }
def TrackSeeksCardSaid : Prop := Claim7.holds Tryz.pinned (.plain (OpenSpec.ofChange trackSeeksSpec)) trackSeeksCard

/-- THE TIED CARD OF 'kinoralaw17.TrackHurt'. -/
def trackHurtCard : Claim7 := { stood := { row := trackHurtRow, standIns := [], harness := (true, "f58e910a06a1501eb8767231f9fb86f292a702a9c05d864ab6d18b8654061ddd"), looks := false }, kinds := [], alts := [], laidByText := true, laidKinds := [.data], laidTests := true, laidLooks := .later }
def TrackHurtCardSaid : Prop := Claim7.holds Tryz.pinned (.plain (OpenSpec.ofChange trackHurtSpec)) trackHurtCard

/-- THE TIED CARD OF 'kinoralaw17.TrackHead'. -/
def trackHeadCard : Claim7 := { stood := { row := trackHeadRow, standIns := [], harness := (true, "f58e910a06a1501eb8767231f9fb86f292a702a9c05d864ab6d18b8654061ddd"), looks := false }, kinds := [], alts := [], laidByText := true, laidKinds := [.data], laidTests := true, laidLooks := .later }
def TrackHeadCardSaid : Prop := Claim7.holds Tryz.pinned (.plain (OpenSpec.ofChange trackHeadSpec)) trackHeadCard

/-- THE TIED CARD OF 'kinoralaw17.TrackEffort'. -/
def trackEffortCard : Claim7 := { stood := { row := trackEffortRow, standIns := [], harness := (true, "f58e910a06a1501eb8767231f9fb86f292a702a9c05d864ab6d18b8654061ddd"), looks := false }, kinds := [], alts := [], laidByText := true, laidKinds := [.data], laidTests := true, laidLooks := .later }
def TrackEffortCardSaid : Prop := Claim7.holds Tryz.pinned (.plain (OpenSpec.ofChange trackEffortSpec)) trackEffortCard

/-- THE TIED CARD OF 'kinoralaw17.TrackPieces'. -/
def trackPiecesCard : Claim7 := { stood := { row := trackPiecesRow, standIns := [], harness := (true, "f58e910a06a1501eb8767231f9fb86f292a702a9c05d864ab6d18b8654061ddd"), looks := false }, kinds := [], alts := [], laidByText := true, laidKinds := [.data], laidTests := true, laidLooks := .later }
def TrackPiecesCardSaid : Prop := Claim7.holds Tryz.pinned (.plain (OpenSpec.ofChange trackPiecesSpec)) trackPiecesCard

/-- THE TIED CARD OF 'kinoralaw17.TrackFound'. -/
def trackFoundCard : Claim7 := { stood := { row := trackFoundRow, standIns := [], harness := (true, "f58e910a06a1501eb8767231f9fb86f292a702a9c05d864ab6d18b8654061ddd"), looks := false }, kinds := [], alts := [], laidByText := true, laidKinds := [.data], laidTests := true, laidLooks := .later }
def TrackFoundCardSaid : Prop := Claim7.holds Tryz.pinned (.plain (OpenSpec.ofChange trackFoundSpec)) trackFoundCard

/-- THE SECOND FORM's CARD OF 'kinoralaw16.FrameTurned'. -/
def frameTurnedUptoCard : Claim7 := { stood := { row := frameTurnedUptoRow, standIns := [], harness := (true, "f58e910a06a1501eb8767231f9fb86f292a702a9c05d864ab6d18b8654061ddd"), looks := false }, kinds := [], alts := [], laidByText := true, laidKinds := [.data], laidTests := true, laidLooks := .later }
def FrameTurnedUptoCardSaid : Prop := Claim7.holds Tryz.pinned (.plain (OpenSpec.upto frameTurnedSpec)) frameTurnedUptoCard

/-- THE SECOND FORM's CARD OF 'kinoralaw16.FrameRoom'. -/
def frameRoomUptoCard : Claim7 := { stood := { row := frameRoomUptoRow, standIns := [], harness := (true, "f58e910a06a1501eb8767231f9fb86f292a702a9c05d864ab6d18b8654061ddd"), looks := false }, kinds := [], alts := [], laidByText := true, laidKinds := [.data], laidTests := true, laidLooks := .later }
def FrameRoomUptoCardSaid : Prop := Claim7.holds Tryz.pinned (.plain (OpenSpec.upto frameRoomSpec)) frameRoomUptoCard

/-- THE SECOND FORM's CARD OF 'kinoralaw16.FrameMakes'. -/
def frameMakesUptoCard : Claim7 := { stood := { row := frameMakesUptoRow, standIns := [], harness := (true, "f58e910a06a1501eb8767231f9fb86f292a702a9c05d864ab6d18b8654061ddd"), looks := false }, kinds := [], alts := [], laidByText := true, laidKinds := [.data], laidTests := true, laidLooks := .later }
def FrameMakesUptoCardSaid : Prop := Claim7.holds Tryz.pinned (.plain (OpenSpec.upto frameMakesSpec)) frameMakesUptoCard

/-- THE SECOND FORM's CARD OF 'kinoralaw17.TrackTells'. -/
def trackTellsUptoCard : Claim7 := { stood := { row := trackTellsUptoRow, standIns := [], harness := (true, "f58e910a06a1501eb8767231f9fb86f292a702a9c05d864ab6d18b8654061ddd"), looks := false }, kinds := [], alts := [], laidByText := true, laidKinds := [.data], laidTests := true, laidLooks := .later }
def TrackTellsUptoCardSaid : Prop := Claim7.holds Tryz.pinned (.plain (OpenSpec.upto trackTellsSpec)) trackTellsUptoCard

/-- THE SECOND FORM's CARD OF 'kinoralaw17.TrackEncodes'. -/
def trackEncodesUptoCard : Claim7 := { stood := { row := trackEncodesUptoRow, standIns := [], harness := (true, "f58e910a06a1501eb8767231f9fb86f292a702a9c05d864ab6d18b8654061ddd"), looks := false }, kinds := [], alts := [], laidByText := true, laidKinds := [.data], laidTests := true, laidLooks := .later }
def TrackEncodesUptoCardSaid : Prop := Claim7.holds Tryz.pinned (.plain (OpenSpec.upto trackEncodesSpec)) trackEncodesUptoCard

/-- THE SECOND FORM's CARD OF 'kinoralaw17.TrackBack'. -/
def trackBackUptoCard : Claim7 := { stood := { row := trackBackUptoRow, standIns := [], harness := (true, "f58e910a06a1501eb8767231f9fb86f292a702a9c05d864ab6d18b8654061ddd"), looks := false }, kinds := [], alts := [], laidByText := true, laidKinds := [.data], laidTests := true, laidLooks := .later }
def TrackBackUptoCardSaid : Prop := Claim7.holds Tryz.pinned (.plain (OpenSpec.upto trackBackSpec)) trackBackUptoCard

/-- THE SECOND FORM's CARD OF 'kinoralaw17.TrackSeeks'. -/
def trackSeeksUptoCard : Claim7 := { stood := { row := trackSeeksUptoRow, standIns := [], harness := (true, "f58e910a06a1501eb8767231f9fb86f292a702a9c05d864ab6d18b8654061ddd"), looks := false }, kinds := [], alts := [], laidByText := true, laidKinds := [.data], laidTests := true, laidLooks := .later }
def TrackSeeksUptoCardSaid : Prop := Claim7.holds Tryz.pinned (.plain (OpenSpec.upto trackSeeksSpec)) trackSeeksUptoCard

/-- THE SECOND FORM's CARD OF 'kinoralaw17.TrackHurt'. -/
def trackHurtUptoCard : Claim7 := { stood := { row := trackHurtUptoRow, standIns := [], harness := (true, "f58e910a06a1501eb8767231f9fb86f292a702a9c05d864ab6d18b8654061ddd"), looks := false }, kinds := [], alts := [], laidByText := true, laidKinds := [.data], laidTests := true, laidLooks := .later }
def TrackHurtUptoCardSaid : Prop := Claim7.holds Tryz.pinned (.plain (OpenSpec.upto trackHurtSpec)) trackHurtUptoCard

/-- THE SECOND FORM's CARD OF 'kinoralaw17.TrackHead'. -/
def trackHeadUptoCard : Claim7 := { stood := { row := trackHeadUptoRow, standIns := [], harness := (true, "f58e910a06a1501eb8767231f9fb86f292a702a9c05d864ab6d18b8654061ddd"), looks := false }, kinds := [], alts := [], laidByText := true, laidKinds := [.data], laidTests := true, laidLooks := .later }
def TrackHeadUptoCardSaid : Prop := Claim7.holds Tryz.pinned (.plain (OpenSpec.upto trackHeadSpec)) trackHeadUptoCard

/-- THE SECOND FORM's CARD OF 'kinoralaw17.TrackEffort'. -/
def trackEffortUptoCard : Claim7 := { stood := { row := trackEffortUptoRow, standIns := [], harness := (true, "f58e910a06a1501eb8767231f9fb86f292a702a9c05d864ab6d18b8654061ddd"), looks := false }, kinds := [], alts := [], laidByText := true, laidKinds := [.data], laidTests := true, laidLooks := .later }
def TrackEffortUptoCardSaid : Prop := Claim7.holds Tryz.pinned (.plain (OpenSpec.upto trackEffortSpec)) trackEffortUptoCard

/-- THE SECOND FORM's CARD OF 'kinoralaw17.TrackPieces'. -/
def trackPiecesUptoCard : Claim7 := { stood := { row := trackPiecesUptoRow, standIns := [], harness := (true, "f58e910a06a1501eb8767231f9fb86f292a702a9c05d864ab6d18b8654061ddd"), looks := false }, kinds := [], alts := [], laidByText := true, laidKinds := [.data], laidTests := true, laidLooks := .later }
def TrackPiecesUptoCardSaid : Prop := Claim7.holds Tryz.pinned (.plain (OpenSpec.upto trackPiecesSpec)) trackPiecesUptoCard

/-- THE SECOND FORM's CARD OF 'kinoralaw17.TrackFound'. -/
def trackFoundUptoCard : Claim7 := { stood := { row := trackFoundUptoRow, standIns := [], harness := (true, "f58e910a06a1501eb8767231f9fb86f292a702a9c05d864ab6d18b8654061ddd"), looks := false }, kinds := [], alts := [], laidByText := true, laidKinds := [.data], laidTests := true, laidLooks := .later }
def TrackFoundUptoCardSaid : Prop := Claim7.holds Tryz.pinned (.plain (OpenSpec.upto trackFoundSpec)) trackFoundUptoCard
end Rows
end Go.Proofs.YtbadoabamddpfaaGreatDoor
