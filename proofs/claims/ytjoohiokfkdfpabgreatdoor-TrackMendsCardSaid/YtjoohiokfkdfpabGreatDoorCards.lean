/-
  DERIVED. GIVEN WITH THE SEED: THE CARDS: each row of YtjoohiokfkdfpabGreatDoorRows.lean that lists a variable, with what it lists TIED to the program's text (the seventh form; the later family's looks); each row that meets fmt, with fmt's text TOLD by the authors' own Lean function (tested against real Go, not proved from fmt's source: count such statements apart). THE CARD IS WHAT COUNTS. Prove the row's statement (the work); the ties are given (YtjoohiokfkdfpabGreatDoorTie.lean); close each card by the builder's one call (the guide's Derived/Test/ToyasCard.lean, 'card_holds'). Laid BY PROGRAM, IN A SANDBOX (cutbox-door.mjs). By AI agents, Wed Nov 11 2026. No macro, syntax, notation, axiom, sorry.
-/
import Derived.Test.YtjoohiokfkdfpabGreatDoorRows
import GoSem.ClaimSeven
namespace Go.Proofs.YtjoohiokfkdfpabGreatDoor
namespace Rows

/-- THE TIED CARD OF 'kinoralaw17.TrackEncodes'. -/
def trackEncodesCard : Claim7 := { stood := { row := trackEncodesRow, standIns := [], harness := (true, "f2d965d930c9e7a7ddb504c711e2b28f1908c769e24b502d563a71facff64e23"), looks := false }, kinds := [], alts := [], laidByText := true, laidKinds := [.data], laidTests := true, laidLooks := .later }
def TrackEncodesCardSaid : Prop := Claim7.holds Tryz.pinned (.plain (OpenSpec.ofChange trackEncodesSpec)) trackEncodesCard

/-- THE TIED CARD OF 'kinoralaw17.TrackHurt'. -/
def trackHurtCard : Claim7 := { stood := { row := trackHurtRow, standIns := [], harness := (true, "f2d965d930c9e7a7ddb504c711e2b28f1908c769e24b502d563a71facff64e23"), looks := false }, kinds := [], alts := [], laidByText := true, laidKinds := [.data], laidTests := true, laidLooks := .later }
def TrackHurtCardSaid : Prop := Claim7.holds Tryz.pinned (.plain (OpenSpec.ofChange trackHurtSpec)) trackHurtCard

/-- THE TIED CARD OF 'kinoralaw17.TrackReads'. -/
def trackReadsCard : Claim7 := { stood := { row := trackReadsRow, standIns := [], harness := (true, "f2d965d930c9e7a7ddb504c711e2b28f1908c769e24b502d563a71facff64e23"), looks := false }, kinds := [], alts := [], laidByText := true, laidKinds := [.data], laidTests := true, laidLooks := .later }
def TrackReadsCardSaid : Prop := Claim7.holds Tryz.pinned (.plain (OpenSpec.ofChange trackReadsSpec)) trackReadsCard

/-- THE TIED CARD OF 'kinoralaw17.TrackMends'. -/
def trackMendsCard : Claim7 := { stood := { row := trackMendsRow, standIns := [], harness := (true, "f2d965d930c9e7a7ddb504c711e2b28f1908c769e24b502d563a71facff64e23"), looks := false }, kinds := [], alts := [], laidByText := true, laidKinds := [.data], laidTests := true, laidLooks := .later }
def TrackMendsCardSaid : Prop := Claim7.holds Tryz.pinned (.plain (OpenSpec.ofChange trackMendsSpec)) trackMendsCard

/-- THE TIED CARD OF 'kinoralaw19.SpliceCuts'. -/
def spliceCutsCard : Claim7 := { stood := { row := spliceCutsRow, standIns := [], harness := (true, "f2d965d930c9e7a7ddb504c711e2b28f1908c769e24b502d563a71facff64e23"), looks := false }, kinds := [], alts := [], laidByText := true, laidKinds := [.data], laidTests := true, laidLooks := .later }
def SpliceCutsCardSaid : Prop := Claim7.holds Tryz.pinned (.plain (OpenSpec.ofChange spliceCutsSpec)) spliceCutsCard

/-- THE TIED CARD OF 'kinoralaw19.SpliceJoins'. -/
def spliceJoinsCard : Claim7 := { stood := { row := spliceJoinsRow, standIns := [], harness := (true, "f2d965d930c9e7a7ddb504c711e2b28f1908c769e24b502d563a71facff64e23"), looks := false }, kinds := [], alts := [], laidByText := true, laidKinds := [.data], laidTests := true, laidLooks := .later }
def SpliceJoinsCardSaid : Prop := Claim7.holds Tryz.pinned (.plain (OpenSpec.ofChange spliceJoinsSpec)) spliceJoinsCard

/-- THE SECOND FORM's CARD OF 'kinoralaw17.TrackEncodes'. -/
def trackEncodesUptoCard : Claim7 := { stood := { row := trackEncodesUptoRow, standIns := [], harness := (true, "f2d965d930c9e7a7ddb504c711e2b28f1908c769e24b502d563a71facff64e23"), looks := false }, kinds := [], alts := [], laidByText := true, laidKinds := [.data], laidTests := true, laidLooks := .later }
def TrackEncodesUptoCardSaid : Prop := Claim7.holds Tryz.pinned (.plain (OpenSpec.upto trackEncodesSpec)) trackEncodesUptoCard

/-- THE SECOND FORM's CARD OF 'kinoralaw17.TrackHurt'. -/
def trackHurtUptoCard : Claim7 := { stood := { row := trackHurtUptoRow, standIns := [], harness := (true, "f2d965d930c9e7a7ddb504c711e2b28f1908c769e24b502d563a71facff64e23"), looks := false }, kinds := [], alts := [], laidByText := true, laidKinds := [.data], laidTests := true, laidLooks := .later }
def TrackHurtUptoCardSaid : Prop := Claim7.holds Tryz.pinned (.plain (OpenSpec.upto trackHurtSpec)) trackHurtUptoCard

/-- THE SECOND FORM's CARD OF 'kinoralaw17.TrackReads'. -/
def trackReadsUptoCard : Claim7 := { stood := { row := trackReadsUptoRow, standIns := [], harness := (true, "f2d965d930c9e7a7ddb504c711e2b28f1908c769e24b502d563a71facff64e23"), looks := false }, kinds := [], alts := [], laidByText := true, laidKinds := [.data], laidTests := true, laidLooks := .later }
def TrackReadsUptoCardSaid : Prop := Claim7.holds Tryz.pinned (.plain (OpenSpec.upto trackReadsSpec)) trackReadsUptoCard

/-- THE SECOND FORM's CARD OF 'kinoralaw17.TrackMends'. -/
def trackMendsUptoCard : Claim7 := { stood := { row := trackMendsUptoRow, standIns := [], harness := (true, "f2d965d930c9e7a7ddb504c711e2b28f1908c769e24b502d563a71facff64e23"), looks := false }, kinds := [], alts := [], laidByText := true, laidKinds := [.data], laidTests := true, laidLooks := .later }
def TrackMendsUptoCardSaid : Prop := Claim7.holds Tryz.pinned (.plain (OpenSpec.upto trackMendsSpec)) trackMendsUptoCard

/-- THE SECOND FORM's CARD OF 'kinoralaw19.SpliceCuts'. -/
def spliceCutsUptoCard : Claim7 := { stood := { row := spliceCutsUptoRow, standIns := [], harness := (true, "f2d965d930c9e7a7ddb504c711e2b28f1908c769e24b502d563a71facff64e23"), looks := false }, kinds := [], alts := [], laidByText := true, laidKinds := [.data], laidTests := true, laidLooks := .later }
def SpliceCutsUptoCardSaid : Prop := Claim7.holds Tryz.pinned (.plain (OpenSpec.upto spliceCutsSpec)) spliceCutsUptoCard

/-- THE SECOND FORM's CARD OF 'kinoralaw19.SpliceJoins'. -/
def spliceJoinsUptoCard : Claim7 := { stood := { row := spliceJoinsUptoRow, standIns := [], harness := (true, "f2d965d930c9e7a7ddb504c711e2b28f1908c769e24b502d563a71facff64e23"), looks := false }, kinds := [], alts := [], laidByText := true, laidKinds := [.data], laidTests := true, laidLooks := .later }
def SpliceJoinsUptoCardSaid : Prop := Claim7.holds Tryz.pinned (.plain (OpenSpec.upto spliceJoinsSpec)) spliceJoinsUptoCard
end Rows
end Go.Proofs.YtjoohiokfkdfpabGreatDoor
