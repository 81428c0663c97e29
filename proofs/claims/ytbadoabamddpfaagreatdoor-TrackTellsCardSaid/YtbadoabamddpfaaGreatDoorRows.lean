/-
  NARROWER THAN 'FOR EVERY INPUT', by the rows' own cells (each row's printed sentence says how): FrameTurned: laid · FrameRoom: laid · FrameMakes: laid · TrackTells: laid · TrackEncodes: laid · TrackBack: laid · TrackSeeks: laid · TrackHurt: laid · TrackHead: laid · TrackEffort: laid · TrackPieces: laid · TrackFound: laid.
  DERIVED. THE GIVEN ROWS OF THIS SEAT. 12 by the template 'for every input the law returns true; each argument reads behind the call as it read before'; 0 by the template 'total and deterministic' (their statements: YtbadoabamddpfaaGreatDoorTotals.lean).
  GIVEN WITH THE SEED: the statements are not yours to turn. If you find one false, say at which input.
  Laid BY PROGRAM, IN A SANDBOX (cutbox-rows.mjs): the forced cells as the released guide's own fill.sh prints them over the translation 2395fac2aac6b51b… (all of the seat's roots in one cut). By AI agents, Wed Nov 11 2026. No macro, syntax, notation, axiom, sorry.
-/
import Derived.Test.YtbadoabamddpfaaGreatDoorChecked
import GoSem.Claim
import GoSem.ClaimJoined
import GoSem.ClaimMapViews
import Derived.JoinedTies
import Derived.KernelRfl
namespace Go.Proofs.YtbadoabamddpfaaGreatDoor
/- THE CELL 'sum', in the pinned program and in every row, IS THE sha256 OF THE DUMP (.gsa) THAT YtbadoabamddpfaaGreatDoorProg.lean LOADS. Nothing in Lean hashes anything: it is a label: what it is worth is what the hold of that sum in a sandbox is worth. -/
noncomputable def Tryz.pinned : Pinned := { name := "ytbadoabamddpfaagreatdoor", sum := "2395fac2aac6b51bf9832fec178e7ccb7f359a79cb56deb3eee7e47dfdb10b81", checked := Tryz.checked }
namespace Rows
def none {H : Type} : Left H := { results := [], args := [] }

/- WHAT THE LISTED PACKAGE-LEVEL VARIABLES READ AS WHEN THE CALL BEGINS. Each datum BY PROGRAM (the guide's laid-datum.mjs) off the statement by which the dump's own 'gosem.cut.vars' lays the variable. In a bare row this is a premise. The card (YtbadoabamddpfaaGreatDoorCards.lean) ties it to the program's text. -/
def laid_math_bits_deBruijn64tab {H : Type} : DataW H := .agg [.lit (.int .u8 0), .lit (.int .u8 1), .lit (.int .u8 56), .lit (.int .u8 2), .lit (.int .u8 57), .lit (.int .u8 49), .lit (.int .u8 28), .lit (.int .u8 3), .lit (.int .u8 61), .lit (.int .u8 58), .lit (.int .u8 42), .lit (.int .u8 50), .lit (.int .u8 38), .lit (.int .u8 29), .lit (.int .u8 17), .lit (.int .u8 4), .lit (.int .u8 62), .lit (.int .u8 47), .lit (.int .u8 59), .lit (.int .u8 36), .lit (.int .u8 45), .lit (.int .u8 43), .lit (.int .u8 51), .lit (.int .u8 22), .lit (.int .u8 53), .lit (.int .u8 39), .lit (.int .u8 33), .lit (.int .u8 30), .lit (.int .u8 24), .lit (.int .u8 18), .lit (.int .u8 12), .lit (.int .u8 5), .lit (.int .u8 63), .lit (.int .u8 55), .lit (.int .u8 48), .lit (.int .u8 27), .lit (.int .u8 60), .lit (.int .u8 41), .lit (.int .u8 37), .lit (.int .u8 16), .lit (.int .u8 46), .lit (.int .u8 35), .lit (.int .u8 44), .lit (.int .u8 21), .lit (.int .u8 52), .lit (.int .u8 32), .lit (.int .u8 23), .lit (.int .u8 11), .lit (.int .u8 54), .lit (.int .u8 26), .lit (.int .u8 40), .lit (.int .u8 15), .lit (.int .u8 34), .lit (.int .u8 20), .lit (.int .u8 31), .lit (.int .u8 10), .lit (.int .u8 25), .lit (.int .u8 14), .lit (.int .u8 19), .lit (.int .u8 9), .lit (.int .u8 13), .lit (.int .u8 8), .lit (.int .u8 7), .lit (.int .u8 6)]

/-- 'kinoralaw16.FrameTurned': WHATEVER THE INPUT: true; the input reads as it did. -/
def frameTurnedSpec : ChangeSpec := { name := "frameTurned", fn := fun _ => fun
  | [d1, d2, d3, d4] => { results := [.lit (.bool true)], args := [d1, d2, d3, d4] }
  | _ => none }
def frameTurnedRow : OpenClaim := { program := "ytbadoabamddpfaagreatdoor", sum := "2395fac2aac6b51bf9832fec178e7ccb7f359a79cb56deb3eee7e47dfdb10b81", func := "kinora/kinoralaw16.FrameTurned", spec := "frameTurned", unfollowed := true, recurses := true, named := ["math/bits.deBruijn64tab"], apart := false, laid := [("math/bits.deBruijn64tab", laid_math_bits_deBruijn64tab)] }
def FrameTurnedSaid : Prop := frameTurnedRow.holds Tryz.pinned (OpenSpec.ofChange frameTurnedSpec)

/-- ITS FALSE NEIGHBOUR: 'it returns false'. Refute it at one input. -/
def frameTurnedWrong : ChangeSpec := { name := "frameTurned", fn := fun _ => fun
  | [d1, d2, d3, d4] => { results := [.lit (.bool false)], args := [d1, d2, d3, d4] }
  | _ => none }
def FrameTurnedWrongFalsely : Prop := frameTurnedRow.holds Tryz.pinned (OpenSpec.ofChange frameTurnedWrong)

/-- 'kinoralaw16.FrameRoom': WHATEVER THE INPUT: true; the input reads as it did. -/
def frameRoomSpec : ChangeSpec := { name := "frameRoom", fn := fun _ => fun
  | [d1, d2] => { results := [.lit (.bool true)], args := [d1, d2] }
  | _ => none }
def frameRoomRow : OpenClaim := { program := "ytbadoabamddpfaagreatdoor", sum := "2395fac2aac6b51bf9832fec178e7ccb7f359a79cb56deb3eee7e47dfdb10b81", func := "kinora/kinoralaw16.FrameRoom", spec := "frameRoom", unfollowed := true, recurses := true, named := ["math/bits.deBruijn64tab"], apart := false, laid := [("math/bits.deBruijn64tab", laid_math_bits_deBruijn64tab)] }
def FrameRoomSaid : Prop := frameRoomRow.holds Tryz.pinned (OpenSpec.ofChange frameRoomSpec)

/-- ITS FALSE NEIGHBOUR: 'it returns false'. Refute it at one input. -/
def frameRoomWrong : ChangeSpec := { name := "frameRoom", fn := fun _ => fun
  | [d1, d2] => { results := [.lit (.bool false)], args := [d1, d2] }
  | _ => none }
def FrameRoomWrongFalsely : Prop := frameRoomRow.holds Tryz.pinned (OpenSpec.ofChange frameRoomWrong)

/-- 'kinoralaw16.FrameMakes': WHATEVER THE INPUT: true; the input reads as it did. -/
def frameMakesSpec : ChangeSpec := { name := "frameMakes", fn := fun _ => fun
  | [d1, d2, d3, d4] => { results := [.lit (.bool true)], args := [d1, d2, d3, d4] }
  | _ => none }
def frameMakesRow : OpenClaim := { program := "ytbadoabamddpfaagreatdoor", sum := "2395fac2aac6b51bf9832fec178e7ccb7f359a79cb56deb3eee7e47dfdb10b81", func := "kinora/kinoralaw16.FrameMakes", spec := "frameMakes", unfollowed := true, recurses := true, named := ["math/bits.deBruijn64tab"], apart := false, laid := [("math/bits.deBruijn64tab", laid_math_bits_deBruijn64tab)] }
def FrameMakesSaid : Prop := frameMakesRow.holds Tryz.pinned (OpenSpec.ofChange frameMakesSpec)

/-- ITS FALSE NEIGHBOUR: 'it returns false'. Refute it at one input. -/
def frameMakesWrong : ChangeSpec := { name := "frameMakes", fn := fun _ => fun
  | [d1, d2, d3, d4] => { results := [.lit (.bool false)], args := [d1, d2, d3, d4] }
  | _ => none }
def FrameMakesWrongFalsely : Prop := frameMakesRow.holds Tryz.pinned (OpenSpec.ofChange frameMakesWrong)

/-- 'kinoralaw17.TrackTells': WHATEVER THE INPUT: true; the input reads as it did. -/
def trackTellsSpec : ChangeSpec := { name := "trackTells", fn := fun _ => fun
  | [d1, d2] => { results := [.lit (.bool true)], args := [d1, d2] }
  | _ => none }
def trackTellsRow : OpenClaim := { program := "ytbadoabamddpfaagreatdoor", sum := "2395fac2aac6b51bf9832fec178e7ccb7f359a79cb56deb3eee7e47dfdb10b81", func := "kinora/kinoralaw17.TrackTells", spec := "trackTells", inPlace := ["math/bits.Add64"], unfollowed := true, recurses := true, named := ["math/bits.deBruijn64tab", "math/bits.divideError", "math/bits.overflowError"], apart := false, laid := [("math/bits.deBruijn64tab", laid_math_bits_deBruijn64tab)] }
def TrackTellsSaid : Prop := trackTellsRow.holds Tryz.pinned (OpenSpec.ofChange trackTellsSpec)

/-- ITS FALSE NEIGHBOUR: 'it returns false'. Refute it at one input. -/
def trackTellsWrong : ChangeSpec := { name := "trackTells", fn := fun _ => fun
  | [d1, d2] => { results := [.lit (.bool false)], args := [d1, d2] }
  | _ => none }
def TrackTellsWrongFalsely : Prop := trackTellsRow.holds Tryz.pinned (OpenSpec.ofChange trackTellsWrong)

/-- 'kinoralaw17.TrackEncodes': WHATEVER THE INPUT: true; the input reads as it did. -/
def trackEncodesSpec : ChangeSpec := { name := "trackEncodes", fn := fun _ => fun
  | [d1, d2, d3, d4] => { results := [.lit (.bool true)], args := [d1, d2, d3, d4] }
  | _ => none }
def trackEncodesRow : OpenClaim := { program := "ytbadoabamddpfaagreatdoor", sum := "2395fac2aac6b51bf9832fec178e7ccb7f359a79cb56deb3eee7e47dfdb10b81", func := "kinora/kinoralaw17.TrackEncodes", spec := "trackEncodes", inPlace := ["math/bits.Add64"], unfollowed := true, recurses := true, named := ["math/bits.deBruijn64tab", "math/bits.divideError", "math/bits.overflowError"], apart := false, laid := [("math/bits.deBruijn64tab", laid_math_bits_deBruijn64tab)] }
def TrackEncodesSaid : Prop := trackEncodesRow.holds Tryz.pinned (OpenSpec.ofChange trackEncodesSpec)

/-- ITS FALSE NEIGHBOUR: 'it returns false'. Refute it at one input. -/
def trackEncodesWrong : ChangeSpec := { name := "trackEncodes", fn := fun _ => fun
  | [d1, d2, d3, d4] => { results := [.lit (.bool false)], args := [d1, d2, d3, d4] }
  | _ => none }
def TrackEncodesWrongFalsely : Prop := trackEncodesRow.holds Tryz.pinned (OpenSpec.ofChange trackEncodesWrong)

/-- 'kinoralaw17.TrackBack': WHATEVER THE INPUT: true; the input reads as it did. -/
def trackBackSpec : ChangeSpec := { name := "trackBack", fn := fun _ => fun
  | [d1, d2, d3, d4] => { results := [.lit (.bool true)], args := [d1, d2, d3, d4] }
  | _ => none }
def trackBackRow : OpenClaim := { program := "ytbadoabamddpfaagreatdoor", sum := "2395fac2aac6b51bf9832fec178e7ccb7f359a79cb56deb3eee7e47dfdb10b81", func := "kinora/kinoralaw17.TrackBack", spec := "trackBack", inPlace := ["math/bits.Add64"], unfollowed := true, recurses := true, named := ["math/bits.deBruijn64tab", "math/bits.divideError", "math/bits.overflowError"], apart := false, laid := [("math/bits.deBruijn64tab", laid_math_bits_deBruijn64tab)] }
def TrackBackSaid : Prop := trackBackRow.holds Tryz.pinned (OpenSpec.ofChange trackBackSpec)

/-- ITS FALSE NEIGHBOUR: 'it returns false'. Refute it at one input. -/
def trackBackWrong : ChangeSpec := { name := "trackBack", fn := fun _ => fun
  | [d1, d2, d3, d4] => { results := [.lit (.bool false)], args := [d1, d2, d3, d4] }
  | _ => none }
def TrackBackWrongFalsely : Prop := trackBackRow.holds Tryz.pinned (OpenSpec.ofChange trackBackWrong)

/-- 'kinoralaw17.TrackSeeks': WHATEVER THE INPUT: true; the input reads as it did. -/
def trackSeeksSpec : ChangeSpec := { name := "trackSeeks", fn := fun _ => fun
  | [d1, d2, d3, d4, d5, d6] => { results := [.lit (.bool true)], args := [d1, d2, d3, d4, d5, d6] }
  | _ => none }
def trackSeeksRow : OpenClaim := { program := "ytbadoabamddpfaagreatdoor", sum := "2395fac2aac6b51bf9832fec178e7ccb7f359a79cb56deb3eee7e47dfdb10b81", func := "kinora/kinoralaw17.TrackSeeks", spec := "trackSeeks", inPlace := ["math/bits.Add64"], unfollowed := true, recurses := true, named := ["math/bits.deBruijn64tab", "math/bits.divideError", "math/bits.overflowError"], apart := false, laid := [("math/bits.deBruijn64tab", laid_math_bits_deBruijn64tab)] }
def TrackSeeksSaid : Prop := trackSeeksRow.holds Tryz.pinned (OpenSpec.ofChange trackSeeksSpec)

/-- ITS FALSE NEIGHBOUR: 'it returns false'. Refute it at one input. -/
def trackSeeksWrong : ChangeSpec := { name := "trackSeeks", fn := fun _ => fun
  | [d1, d2, d3, d4, d5, d6] => { results := [.lit (.bool false)], args := [d1, d2, d3, d4, d5, d6] }
  | _ => none }
def TrackSeeksWrongFalsely : Prop := trackSeeksRow.holds Tryz.pinned (OpenSpec.ofChange trackSeeksWrong)

/-- 'kinoralaw17.TrackHurt': WHATEVER THE INPUT: true; the input reads as it did. -/
def trackHurtSpec : ChangeSpec := { name := "trackHurt", fn := fun _ => fun
  | [d1, d2, d3, d4, d5, d6, d7] => { results := [.lit (.bool true)], args := [d1, d2, d3, d4, d5, d6, d7] }
  | _ => none }
def trackHurtRow : OpenClaim := { program := "ytbadoabamddpfaagreatdoor", sum := "2395fac2aac6b51bf9832fec178e7ccb7f359a79cb56deb3eee7e47dfdb10b81", func := "kinora/kinoralaw17.TrackHurt", spec := "trackHurt", inPlace := ["math/bits.Add64"], unfollowed := true, recurses := true, named := ["math/bits.deBruijn64tab", "math/bits.divideError", "math/bits.overflowError"], apart := false, laid := [("math/bits.deBruijn64tab", laid_math_bits_deBruijn64tab)] }
def TrackHurtSaid : Prop := trackHurtRow.holds Tryz.pinned (OpenSpec.ofChange trackHurtSpec)

/-- ITS FALSE NEIGHBOUR: 'it returns false'. Refute it at one input. -/
def trackHurtWrong : ChangeSpec := { name := "trackHurt", fn := fun _ => fun
  | [d1, d2, d3, d4, d5, d6, d7] => { results := [.lit (.bool false)], args := [d1, d2, d3, d4, d5, d6, d7] }
  | _ => none }
def TrackHurtWrongFalsely : Prop := trackHurtRow.holds Tryz.pinned (OpenSpec.ofChange trackHurtWrong)

/-- 'kinoralaw17.TrackHead': WHATEVER THE INPUT: true; the input reads as it did. -/
def trackHeadSpec : ChangeSpec := { name := "trackHead", fn := fun _ => fun
  | [d1, d2, d3, d4, d5] => { results := [.lit (.bool true)], args := [d1, d2, d3, d4, d5] }
  | _ => none }
def trackHeadRow : OpenClaim := { program := "ytbadoabamddpfaagreatdoor", sum := "2395fac2aac6b51bf9832fec178e7ccb7f359a79cb56deb3eee7e47dfdb10b81", func := "kinora/kinoralaw17.TrackHead", spec := "trackHead", inPlace := ["math/bits.Add64"], unfollowed := true, recurses := true, named := ["math/bits.deBruijn64tab", "math/bits.divideError", "math/bits.overflowError"], apart := false, laid := [("math/bits.deBruijn64tab", laid_math_bits_deBruijn64tab)] }
def TrackHeadSaid : Prop := trackHeadRow.holds Tryz.pinned (OpenSpec.ofChange trackHeadSpec)

/-- ITS FALSE NEIGHBOUR: 'it returns false'. Refute it at one input. -/
def trackHeadWrong : ChangeSpec := { name := "trackHead", fn := fun _ => fun
  | [d1, d2, d3, d4, d5] => { results := [.lit (.bool false)], args := [d1, d2, d3, d4, d5] }
  | _ => none }
def TrackHeadWrongFalsely : Prop := trackHeadRow.holds Tryz.pinned (OpenSpec.ofChange trackHeadWrong)

/-- 'kinoralaw17.TrackEffort': WHATEVER THE INPUT: true; the input reads as it did. -/
def trackEffortSpec : ChangeSpec := { name := "trackEffort", fn := fun _ => fun
  | [d1, d2, d3, d4] => { results := [.lit (.bool true)], args := [d1, d2, d3, d4] }
  | _ => none }
def trackEffortRow : OpenClaim := { program := "ytbadoabamddpfaagreatdoor", sum := "2395fac2aac6b51bf9832fec178e7ccb7f359a79cb56deb3eee7e47dfdb10b81", func := "kinora/kinoralaw17.TrackEffort", spec := "trackEffort", inPlace := ["math/bits.Add64"], unfollowed := true, recurses := true, named := ["math/bits.deBruijn64tab", "math/bits.divideError", "math/bits.overflowError"], apart := false, laid := [("math/bits.deBruijn64tab", laid_math_bits_deBruijn64tab)] }
def TrackEffortSaid : Prop := trackEffortRow.holds Tryz.pinned (OpenSpec.ofChange trackEffortSpec)

/-- ITS FALSE NEIGHBOUR: 'it returns false'. Refute it at one input. -/
def trackEffortWrong : ChangeSpec := { name := "trackEffort", fn := fun _ => fun
  | [d1, d2, d3, d4] => { results := [.lit (.bool false)], args := [d1, d2, d3, d4] }
  | _ => none }
def TrackEffortWrongFalsely : Prop := trackEffortRow.holds Tryz.pinned (OpenSpec.ofChange trackEffortWrong)

/-- 'kinoralaw17.TrackPieces': WHATEVER THE INPUT: true; the input reads as it did. -/
def trackPiecesSpec : ChangeSpec := { name := "trackPieces", fn := fun _ => fun
  | [d1, d2, d3, d4, d5] => { results := [.lit (.bool true)], args := [d1, d2, d3, d4, d5] }
  | _ => none }
def trackPiecesRow : OpenClaim := { program := "ytbadoabamddpfaagreatdoor", sum := "2395fac2aac6b51bf9832fec178e7ccb7f359a79cb56deb3eee7e47dfdb10b81", func := "kinora/kinoralaw17.TrackPieces", spec := "trackPieces", inPlace := ["math/bits.Add64"], unfollowed := true, recurses := true, named := ["math/bits.deBruijn64tab", "math/bits.divideError", "math/bits.overflowError"], apart := false, laid := [("math/bits.deBruijn64tab", laid_math_bits_deBruijn64tab)] }
def TrackPiecesSaid : Prop := trackPiecesRow.holds Tryz.pinned (OpenSpec.ofChange trackPiecesSpec)

/-- ITS FALSE NEIGHBOUR: 'it returns false'. Refute it at one input. -/
def trackPiecesWrong : ChangeSpec := { name := "trackPieces", fn := fun _ => fun
  | [d1, d2, d3, d4, d5] => { results := [.lit (.bool false)], args := [d1, d2, d3, d4, d5] }
  | _ => none }
def TrackPiecesWrongFalsely : Prop := trackPiecesRow.holds Tryz.pinned (OpenSpec.ofChange trackPiecesWrong)

/-- 'kinoralaw17.TrackFound': WHATEVER THE INPUT: true; the input reads as it did. -/
def trackFoundSpec : ChangeSpec := { name := "trackFound", fn := fun _ => fun
  | [d1, d2, d3, d4, d5, d6] => { results := [.lit (.bool true)], args := [d1, d2, d3, d4, d5, d6] }
  | _ => none }
def trackFoundRow : OpenClaim := { program := "ytbadoabamddpfaagreatdoor", sum := "2395fac2aac6b51bf9832fec178e7ccb7f359a79cb56deb3eee7e47dfdb10b81", func := "kinora/kinoralaw17.TrackFound", spec := "trackFound", inPlace := ["math/bits.Add64"], unfollowed := true, recurses := true, named := ["math/bits.deBruijn64tab", "math/bits.divideError", "math/bits.overflowError"], apart := false, laid := [("math/bits.deBruijn64tab", laid_math_bits_deBruijn64tab)] }
def TrackFoundSaid : Prop := trackFoundRow.holds Tryz.pinned (OpenSpec.ofChange trackFoundSpec)

/-- ITS FALSE NEIGHBOUR: 'it returns false'. Refute it at one input. -/
def trackFoundWrong : ChangeSpec := { name := "trackFound", fn := fun _ => fun
  | [d1, d2, d3, d4, d5, d6] => { results := [.lit (.bool false)], args := [d1, d2, d3, d4, d5, d6] }
  | _ => none }
def TrackFoundWrongFalsely : Prop := trackFoundRow.holds Tryz.pinned (OpenSpec.ofChange trackFoundWrong)

/- THE SECOND FORM. 'bulk': how many values and letters a reading holds, each counted each time it is reached (what is shared counts as often as it is met; a slice's spare places count too). A statement '..UptoSaid' is the law's where the arguments, and the package variables that the reading takes, are together of bulk at most 1048576: NARROWER than '..Said'. Prove '..Said' where nothing that the law and all that it calls make is longer than what came in: it says more and counts as full. Else prove '..UptoSaid'. A law counts once. -/
mutual
def uptoBulk {H : Type} : DataW H → Nat
  | .lit (.string bytes) => bytes.length + 1
  | .lit _ => 1
  | .nil => 1
  | .ptr d => uptoBulk d + 1
  | .slice elems spare => uptoBulkAll elems + uptoBulkAll spare + 1
  | .agg parts => uptoBulkAll parts + 1
  | .iface _ d => uptoBulk d + 1
  | .map entries => uptoBulkEntries entries + 1
  | .held _ => 1
def uptoBulkAll {H : Type} : List (DataW H) → Nat
  | [] => 0
  | d :: r => uptoBulk d + uptoBulkAll r
def uptoBulkEntries {H : Type} : List (Lit × DataW H) → Nat
  | [] => 0
  | x :: r => uptoBulkEntry x + uptoBulkEntries r
def uptoBulkEntry {H : Type} : Lit × DataW H → Nat
  | (.string bytes, d) => bytes.length + uptoBulk d + 1
  | (_, d) => uptoBulk d + 1
 end
def uptoSmall : (H : Type) → List (DataW H) → Bool := fun _ ds => decide (uptoBulkAll ds ≤ 1048576)
def OpenSpec.upto (s : _root_.Go.ChangeSpec) : _root_.Go.OpenSpec := { _root_.Go.OpenSpec.ofChange s with cond := some uptoSmall }

/-- 'kinoralaw16.FrameTurned', WHERE WHAT IT READS IS OF BULK AT MOST 1048576: true; the input reads as it did. -/
def frameTurnedUptoRow : OpenClaim := { program := "ytbadoabamddpfaagreatdoor", sum := "2395fac2aac6b51bf9832fec178e7ccb7f359a79cb56deb3eee7e47dfdb10b81", func := "kinora/kinoralaw16.FrameTurned", spec := "frameTurned", unfollowed := true, recurses := true, named := ["math/bits.deBruijn64tab"], apart := false, laid := [("math/bits.deBruijn64tab", laid_math_bits_deBruijn64tab)], narrowed := true }
def FrameTurnedUptoSaid : Prop := frameTurnedUptoRow.holds Tryz.pinned (OpenSpec.upto frameTurnedSpec)

/-- 'kinoralaw16.FrameRoom', WHERE WHAT IT READS IS OF BULK AT MOST 1048576: true; the input reads as it did. -/
def frameRoomUptoRow : OpenClaim := { program := "ytbadoabamddpfaagreatdoor", sum := "2395fac2aac6b51bf9832fec178e7ccb7f359a79cb56deb3eee7e47dfdb10b81", func := "kinora/kinoralaw16.FrameRoom", spec := "frameRoom", unfollowed := true, recurses := true, named := ["math/bits.deBruijn64tab"], apart := false, laid := [("math/bits.deBruijn64tab", laid_math_bits_deBruijn64tab)], narrowed := true }
def FrameRoomUptoSaid : Prop := frameRoomUptoRow.holds Tryz.pinned (OpenSpec.upto frameRoomSpec)

/-- 'kinoralaw16.FrameMakes', WHERE WHAT IT READS IS OF BULK AT MOST 1048576: true; the input reads as it did. -/
def frameMakesUptoRow : OpenClaim := { program := "ytbadoabamddpfaagreatdoor", sum := "2395fac2aac6b51bf9832fec178e7ccb7f359a79cb56deb3eee7e47dfdb10b81", func := "kinora/kinoralaw16.FrameMakes", spec := "frameMakes", unfollowed := true, recurses := true, named := ["math/bits.deBruijn64tab"], apart := false, laid := [("math/bits.deBruijn64tab", laid_math_bits_deBruijn64tab)], narrowed := true }
def FrameMakesUptoSaid : Prop := frameMakesUptoRow.holds Tryz.pinned (OpenSpec.upto frameMakesSpec)

/-- 'kinoralaw17.TrackTells', WHERE WHAT IT READS IS OF BULK AT MOST 1048576: true; the input reads as it did. -/
def trackTellsUptoRow : OpenClaim := { program := "ytbadoabamddpfaagreatdoor", sum := "2395fac2aac6b51bf9832fec178e7ccb7f359a79cb56deb3eee7e47dfdb10b81", func := "kinora/kinoralaw17.TrackTells", spec := "trackTells", inPlace := ["math/bits.Add64"], unfollowed := true, recurses := true, named := ["math/bits.deBruijn64tab", "math/bits.divideError", "math/bits.overflowError"], apart := false, laid := [("math/bits.deBruijn64tab", laid_math_bits_deBruijn64tab)], narrowed := true }
def TrackTellsUptoSaid : Prop := trackTellsUptoRow.holds Tryz.pinned (OpenSpec.upto trackTellsSpec)

/-- 'kinoralaw17.TrackEncodes', WHERE WHAT IT READS IS OF BULK AT MOST 1048576: true; the input reads as it did. -/
def trackEncodesUptoRow : OpenClaim := { program := "ytbadoabamddpfaagreatdoor", sum := "2395fac2aac6b51bf9832fec178e7ccb7f359a79cb56deb3eee7e47dfdb10b81", func := "kinora/kinoralaw17.TrackEncodes", spec := "trackEncodes", inPlace := ["math/bits.Add64"], unfollowed := true, recurses := true, named := ["math/bits.deBruijn64tab", "math/bits.divideError", "math/bits.overflowError"], apart := false, laid := [("math/bits.deBruijn64tab", laid_math_bits_deBruijn64tab)], narrowed := true }
def TrackEncodesUptoSaid : Prop := trackEncodesUptoRow.holds Tryz.pinned (OpenSpec.upto trackEncodesSpec)

/-- 'kinoralaw17.TrackBack', WHERE WHAT IT READS IS OF BULK AT MOST 1048576: true; the input reads as it did. -/
def trackBackUptoRow : OpenClaim := { program := "ytbadoabamddpfaagreatdoor", sum := "2395fac2aac6b51bf9832fec178e7ccb7f359a79cb56deb3eee7e47dfdb10b81", func := "kinora/kinoralaw17.TrackBack", spec := "trackBack", inPlace := ["math/bits.Add64"], unfollowed := true, recurses := true, named := ["math/bits.deBruijn64tab", "math/bits.divideError", "math/bits.overflowError"], apart := false, laid := [("math/bits.deBruijn64tab", laid_math_bits_deBruijn64tab)], narrowed := true }
def TrackBackUptoSaid : Prop := trackBackUptoRow.holds Tryz.pinned (OpenSpec.upto trackBackSpec)

/-- 'kinoralaw17.TrackSeeks', WHERE WHAT IT READS IS OF BULK AT MOST 1048576: true; the input reads as it did. -/
def trackSeeksUptoRow : OpenClaim := { program := "ytbadoabamddpfaagreatdoor", sum := "2395fac2aac6b51bf9832fec178e7ccb7f359a79cb56deb3eee7e47dfdb10b81", func := "kinora/kinoralaw17.TrackSeeks", spec := "trackSeeks", inPlace := ["math/bits.Add64"], unfollowed := true, recurses := true, named := ["math/bits.deBruijn64tab", "math/bits.divideError", "math/bits.overflowError"], apart := false, laid := [("math/bits.deBruijn64tab", laid_math_bits_deBruijn64tab)], narrowed := true }
def TrackSeeksUptoSaid : Prop := trackSeeksUptoRow.holds Tryz.pinned (OpenSpec.upto trackSeeksSpec)

/-- 'kinoralaw17.TrackHurt', WHERE WHAT IT READS IS OF BULK AT MOST 1048576: true; the input reads as it did. -/
def trackHurtUptoRow : OpenClaim := { program := "ytbadoabamddpfaagreatdoor", sum := "2395fac2aac6b51bf9832fec178e7ccb7f359a79cb56deb3eee7e47dfdb10b81", func := "kinora/kinoralaw17.TrackHurt", spec := "trackHurt", inPlace := ["math/bits.Add64"], unfollowed := true, recurses := true, named := ["math/bits.deBruijn64tab", "math/bits.divideError", "math/bits.overflowError"], apart := false, laid := [("math/bits.deBruijn64tab", laid_math_bits_deBruijn64tab)], narrowed := true }
def TrackHurtUptoSaid : Prop := trackHurtUptoRow.holds Tryz.pinned (OpenSpec.upto trackHurtSpec)

/-- 'kinoralaw17.TrackHead', WHERE WHAT IT READS IS OF BULK AT MOST 1048576: true; the input reads as it did. -/
def trackHeadUptoRow : OpenClaim := { program := "ytbadoabamddpfaagreatdoor", sum := "2395fac2aac6b51bf9832fec178e7ccb7f359a79cb56deb3eee7e47dfdb10b81", func := "kinora/kinoralaw17.TrackHead", spec := "trackHead", inPlace := ["math/bits.Add64"], unfollowed := true, recurses := true, named := ["math/bits.deBruijn64tab", "math/bits.divideError", "math/bits.overflowError"], apart := false, laid := [("math/bits.deBruijn64tab", laid_math_bits_deBruijn64tab)], narrowed := true }
def TrackHeadUptoSaid : Prop := trackHeadUptoRow.holds Tryz.pinned (OpenSpec.upto trackHeadSpec)

/-- 'kinoralaw17.TrackEffort', WHERE WHAT IT READS IS OF BULK AT MOST 1048576: true; the input reads as it did. -/
def trackEffortUptoRow : OpenClaim := { program := "ytbadoabamddpfaagreatdoor", sum := "2395fac2aac6b51bf9832fec178e7ccb7f359a79cb56deb3eee7e47dfdb10b81", func := "kinora/kinoralaw17.TrackEffort", spec := "trackEffort", inPlace := ["math/bits.Add64"], unfollowed := true, recurses := true, named := ["math/bits.deBruijn64tab", "math/bits.divideError", "math/bits.overflowError"], apart := false, laid := [("math/bits.deBruijn64tab", laid_math_bits_deBruijn64tab)], narrowed := true }
def TrackEffortUptoSaid : Prop := trackEffortUptoRow.holds Tryz.pinned (OpenSpec.upto trackEffortSpec)

/-- 'kinoralaw17.TrackPieces', WHERE WHAT IT READS IS OF BULK AT MOST 1048576: true; the input reads as it did. -/
def trackPiecesUptoRow : OpenClaim := { program := "ytbadoabamddpfaagreatdoor", sum := "2395fac2aac6b51bf9832fec178e7ccb7f359a79cb56deb3eee7e47dfdb10b81", func := "kinora/kinoralaw17.TrackPieces", spec := "trackPieces", inPlace := ["math/bits.Add64"], unfollowed := true, recurses := true, named := ["math/bits.deBruijn64tab", "math/bits.divideError", "math/bits.overflowError"], apart := false, laid := [("math/bits.deBruijn64tab", laid_math_bits_deBruijn64tab)], narrowed := true }
def TrackPiecesUptoSaid : Prop := trackPiecesUptoRow.holds Tryz.pinned (OpenSpec.upto trackPiecesSpec)

/-- 'kinoralaw17.TrackFound', WHERE WHAT IT READS IS OF BULK AT MOST 1048576: true; the input reads as it did. -/
def trackFoundUptoRow : OpenClaim := { program := "ytbadoabamddpfaagreatdoor", sum := "2395fac2aac6b51bf9832fec178e7ccb7f359a79cb56deb3eee7e47dfdb10b81", func := "kinora/kinoralaw17.TrackFound", spec := "trackFound", inPlace := ["math/bits.Add64"], unfollowed := true, recurses := true, named := ["math/bits.deBruijn64tab", "math/bits.divideError", "math/bits.overflowError"], apart := false, laid := [("math/bits.deBruijn64tab", laid_math_bits_deBruijn64tab)], narrowed := true }
def TrackFoundUptoSaid : Prop := trackFoundUptoRow.holds Tryz.pinned (OpenSpec.upto trackFoundSpec)

end Rows
end Go.Proofs.YtbadoabamddpfaaGreatDoor
