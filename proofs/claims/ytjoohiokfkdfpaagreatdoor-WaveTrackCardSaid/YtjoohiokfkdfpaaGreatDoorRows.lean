/-
  NARROWER THAN 'FOR EVERY INPUT', by the rows' own cells (each row's printed sentence says how): FrameMoved: laid · SubBests: laid · FrameEffort: laid · SubAgain: laid · FrameReads: laid · WaveTrack: laid.
  DERIVED. THE GIVEN ROWS OF THIS SEAT. 6 by the template 'for every input the law returns true; each argument reads behind the call as it read before'; 0 by the template 'total and deterministic' (their statements: YtjoohiokfkdfpaaGreatDoorTotals.lean).
  GIVEN WITH THE SEED: the statements are not yours to turn. If you find one false, say at which input.
  Laid BY PROGRAM, IN A SANDBOX (cutbox-rows.mjs): the forced cells as the released guide's own fill.sh prints them over the translation 0ee5eab1f36b27fe… (all of the seat's roots in one cut). By AI agents, Wed Nov 11 2026. No macro, syntax, notation, axiom, sorry.
-/
import Derived.Test.YtjoohiokfkdfpaaGreatDoorChecked
import GoSem.Claim
import GoSem.ClaimJoined
import GoSem.ClaimMapViews
import Derived.JoinedTies
import Derived.KernelRfl
namespace Go.Proofs.YtjoohiokfkdfpaaGreatDoor
/- THE CELL 'sum', in the pinned program and in every row, IS THE sha256 OF THE DUMP (.gsa) THAT YtjoohiokfkdfpaaGreatDoorProg.lean LOADS. Nothing in Lean hashes anything: it is a label: what it is worth is what the hold of that sum in a sandbox is worth. -/
noncomputable def Tryz.pinned : Pinned := { name := "ytjoohiokfkdfpaagreatdoor", sum := "0ee5eab1f36b27fe07257f4710295f61ad5eefaddd05e674cfe9d0b905509dc5", checked := Tryz.checked }
namespace Rows
def none {H : Type} : Left H := { results := [], args := [] }

/- WHAT THE LISTED PACKAGE-LEVEL VARIABLES READ AS WHEN THE CALL BEGINS. Each datum BY PROGRAM (the guide's laid-datum.mjs) off the statement by which the dump's own 'gosem.cut.vars' lays the variable. In a bare row this is a premise. The card (YtjoohiokfkdfpaaGreatDoorCards.lean) ties it to the program's text. -/
def laid_math_bits_deBruijn64tab {H : Type} : DataW H := .agg [.lit (.int .u8 0), .lit (.int .u8 1), .lit (.int .u8 56), .lit (.int .u8 2), .lit (.int .u8 57), .lit (.int .u8 49), .lit (.int .u8 28), .lit (.int .u8 3), .lit (.int .u8 61), .lit (.int .u8 58), .lit (.int .u8 42), .lit (.int .u8 50), .lit (.int .u8 38), .lit (.int .u8 29), .lit (.int .u8 17), .lit (.int .u8 4), .lit (.int .u8 62), .lit (.int .u8 47), .lit (.int .u8 59), .lit (.int .u8 36), .lit (.int .u8 45), .lit (.int .u8 43), .lit (.int .u8 51), .lit (.int .u8 22), .lit (.int .u8 53), .lit (.int .u8 39), .lit (.int .u8 33), .lit (.int .u8 30), .lit (.int .u8 24), .lit (.int .u8 18), .lit (.int .u8 12), .lit (.int .u8 5), .lit (.int .u8 63), .lit (.int .u8 55), .lit (.int .u8 48), .lit (.int .u8 27), .lit (.int .u8 60), .lit (.int .u8 41), .lit (.int .u8 37), .lit (.int .u8 16), .lit (.int .u8 46), .lit (.int .u8 35), .lit (.int .u8 44), .lit (.int .u8 21), .lit (.int .u8 52), .lit (.int .u8 32), .lit (.int .u8 23), .lit (.int .u8 11), .lit (.int .u8 54), .lit (.int .u8 26), .lit (.int .u8 40), .lit (.int .u8 15), .lit (.int .u8 34), .lit (.int .u8 20), .lit (.int .u8 31), .lit (.int .u8 10), .lit (.int .u8 25), .lit (.int .u8 14), .lit (.int .u8 19), .lit (.int .u8 9), .lit (.int .u8 13), .lit (.int .u8 8), .lit (.int .u8 7), .lit (.int .u8 6)]

/-- 'kinoralaw16.FrameMoved': WHATEVER THE INPUT: true; the input reads as it did. -/
def frameMovedSpec : ChangeSpec := { name := "frameMoved", fn := fun _ => fun
  | [d1, d2, d3, d4] => { results := [.lit (.bool true)], args := [d1, d2, d3, d4] }
  | _ => none }
def frameMovedRow : OpenClaim := { program := "ytjoohiokfkdfpaagreatdoor", sum := "0ee5eab1f36b27fe07257f4710295f61ad5eefaddd05e674cfe9d0b905509dc5", func := "kinora/kinoralaw16.FrameMoved", spec := "frameMoved", unfollowed := true, recurses := true, named := ["math/bits.deBruijn64tab"], apart := false, laid := [("math/bits.deBruijn64tab", laid_math_bits_deBruijn64tab)] }
def FrameMovedSaid : Prop := frameMovedRow.holds Tryz.pinned (OpenSpec.ofChange frameMovedSpec)

/-- ITS FALSE NEIGHBOUR: 'it returns false'. Refute it at one input. -/
def frameMovedWrong : ChangeSpec := { name := "frameMoved", fn := fun _ => fun
  | [d1, d2, d3, d4] => { results := [.lit (.bool false)], args := [d1, d2, d3, d4] }
  | _ => none }
def FrameMovedWrongFalsely : Prop := frameMovedRow.holds Tryz.pinned (OpenSpec.ofChange frameMovedWrong)

/-- 'kinoralaw15.SubBests': WHATEVER THE INPUT: true; the input reads as it did. -/
def subBestsSpec : ChangeSpec := { name := "subBests", fn := fun _ => fun
  | [d1, d2] => { results := [.lit (.bool true)], args := [d1, d2] }
  | _ => none }
def subBestsRow : OpenClaim := { program := "ytjoohiokfkdfpaagreatdoor", sum := "0ee5eab1f36b27fe07257f4710295f61ad5eefaddd05e674cfe9d0b905509dc5", func := "kinora/kinoralaw15.SubBests", spec := "subBests", unfollowed := true, recurses := true, named := ["math/bits.deBruijn64tab"], apart := false, laid := [("math/bits.deBruijn64tab", laid_math_bits_deBruijn64tab)] }
def SubBestsSaid : Prop := subBestsRow.holds Tryz.pinned (OpenSpec.ofChange subBestsSpec)

/-- ITS FALSE NEIGHBOUR: 'it returns false'. Refute it at one input. -/
def subBestsWrong : ChangeSpec := { name := "subBests", fn := fun _ => fun
  | [d1, d2] => { results := [.lit (.bool false)], args := [d1, d2] }
  | _ => none }
def SubBestsWrongFalsely : Prop := subBestsRow.holds Tryz.pinned (OpenSpec.ofChange subBestsWrong)

/-- 'kinoralaw16.FrameEffort': WHATEVER THE INPUT: true; the input reads as it did. -/
def frameEffortSpec : ChangeSpec := { name := "frameEffort", fn := fun _ => fun
  | [d1, d2] => { results := [.lit (.bool true)], args := [d1, d2] }
  | _ => none }
def frameEffortRow : OpenClaim := { program := "ytjoohiokfkdfpaagreatdoor", sum := "0ee5eab1f36b27fe07257f4710295f61ad5eefaddd05e674cfe9d0b905509dc5", func := "kinora/kinoralaw16.FrameEffort", spec := "frameEffort", unfollowed := true, recurses := true, named := ["math/bits.deBruijn64tab"], apart := false, laid := [("math/bits.deBruijn64tab", laid_math_bits_deBruijn64tab)] }
def FrameEffortSaid : Prop := frameEffortRow.holds Tryz.pinned (OpenSpec.ofChange frameEffortSpec)

/-- ITS FALSE NEIGHBOUR: 'it returns false'. Refute it at one input. -/
def frameEffortWrong : ChangeSpec := { name := "frameEffort", fn := fun _ => fun
  | [d1, d2] => { results := [.lit (.bool false)], args := [d1, d2] }
  | _ => none }
def FrameEffortWrongFalsely : Prop := frameEffortRow.holds Tryz.pinned (OpenSpec.ofChange frameEffortWrong)

/-- 'kinoralaw15.SubAgain': WHATEVER THE INPUT: true; the input reads as it did. -/
def subAgainSpec : ChangeSpec := { name := "subAgain", fn := fun _ => fun
  | [d1, d2, d3] => { results := [.lit (.bool true)], args := [d1, d2, d3] }
  | _ => none }
def subAgainRow : OpenClaim := { program := "ytjoohiokfkdfpaagreatdoor", sum := "0ee5eab1f36b27fe07257f4710295f61ad5eefaddd05e674cfe9d0b905509dc5", func := "kinora/kinoralaw15.SubAgain", spec := "subAgain", unfollowed := true, recurses := true, named := ["math/bits.deBruijn64tab"], apart := false, laid := [("math/bits.deBruijn64tab", laid_math_bits_deBruijn64tab)] }
def SubAgainSaid : Prop := subAgainRow.holds Tryz.pinned (OpenSpec.ofChange subAgainSpec)

/-- ITS FALSE NEIGHBOUR: 'it returns false'. Refute it at one input. -/
def subAgainWrong : ChangeSpec := { name := "subAgain", fn := fun _ => fun
  | [d1, d2, d3] => { results := [.lit (.bool false)], args := [d1, d2, d3] }
  | _ => none }
def SubAgainWrongFalsely : Prop := subAgainRow.holds Tryz.pinned (OpenSpec.ofChange subAgainWrong)

/-- 'kinoralaw16.FrameReads': WHATEVER THE INPUT: true; the input reads as it did. -/
def frameReadsSpec : ChangeSpec := { name := "frameReads", fn := fun _ => fun
  | [d] => { results := [.lit (.bool true)], args := [d] }
  | _ => none }
def frameReadsRow : OpenClaim := { program := "ytjoohiokfkdfpaagreatdoor", sum := "0ee5eab1f36b27fe07257f4710295f61ad5eefaddd05e674cfe9d0b905509dc5", func := "kinora/kinoralaw16.FrameReads", spec := "frameReads", unfollowed := true, recurses := true, named := ["math/bits.deBruijn64tab"], apart := false, laid := [("math/bits.deBruijn64tab", laid_math_bits_deBruijn64tab)] }
def FrameReadsSaid : Prop := frameReadsRow.holds Tryz.pinned (OpenSpec.ofChange frameReadsSpec)

/-- ITS FALSE NEIGHBOUR: 'it returns false'. Refute it at one input. -/
def frameReadsWrong : ChangeSpec := { name := "frameReads", fn := fun _ => fun
  | [d] => { results := [.lit (.bool false)], args := [d] }
  | _ => none }
def FrameReadsWrongFalsely : Prop := frameReadsRow.holds Tryz.pinned (OpenSpec.ofChange frameReadsWrong)

/-- 'kinoralaw18.WaveTrack': WHATEVER THE INPUT: true; the input reads as it did. -/
def waveTrackSpec : ChangeSpec := { name := "waveTrack", fn := fun _ => fun
  | [d1, d2, d3, d4] => { results := [.lit (.bool true)], args := [d1, d2, d3, d4] }
  | _ => none }
def waveTrackRow : OpenClaim := { program := "ytjoohiokfkdfpaagreatdoor", sum := "0ee5eab1f36b27fe07257f4710295f61ad5eefaddd05e674cfe9d0b905509dc5", func := "kinora/kinoralaw18.WaveTrack", spec := "waveTrack", inPlace := ["math/bits.Add64"], unfollowed := true, recurses := true, named := ["math/bits.deBruijn64tab", "math/bits.divideError", "math/bits.overflowError"], apart := false, laid := [("math/bits.deBruijn64tab", laid_math_bits_deBruijn64tab)] }
def WaveTrackSaid : Prop := waveTrackRow.holds Tryz.pinned (OpenSpec.ofChange waveTrackSpec)

/-- ITS FALSE NEIGHBOUR: 'it returns false'. Refute it at one input. -/
def waveTrackWrong : ChangeSpec := { name := "waveTrack", fn := fun _ => fun
  | [d1, d2, d3, d4] => { results := [.lit (.bool false)], args := [d1, d2, d3, d4] }
  | _ => none }
def WaveTrackWrongFalsely : Prop := waveTrackRow.holds Tryz.pinned (OpenSpec.ofChange waveTrackWrong)

/- THE SECOND FORM. 'bulk': how many values and letters a reading holds, each counted each time it is reached (what is shared counts as often as it is met; a slice's spare places count too). A statement '..UptoSaid' is the law's where the arguments, and the package variables that the reading takes, are together of bulk at most 1048576: NARROWER than '..Said'. Prove '..Said' where nothing that the law and all that it calls make is longer than what came in: it says more and counts as full. Else prove '..UptoSaid'. A law counts once. -/
mutual
def uptoBulk {H : Type} : DataW H → Nat
  | .lit (.string bytes) => bytes.length + 1
  | .lit _ => 1
  | .nil => 1
  | .ptr d => uptoBulk d + 1
  | .slice elems spare => uptoBulkAll elems + uptoBulkAll spare + 1
  | .agg parts => uptoBulkAll parts + 1
  | .iface _ d => uptoBulk d + 1
  | .map entries => uptoBulkEntries entries + 1
  | .held _ => 1
def uptoBulkAll {H : Type} : List (DataW H) → Nat
  | [] => 0
  | d :: r => uptoBulk d + uptoBulkAll r
def uptoBulkEntries {H : Type} : List (Lit × DataW H) → Nat
  | [] => 0
  | x :: r => uptoBulkEntry x + uptoBulkEntries r
def uptoBulkEntry {H : Type} : Lit × DataW H → Nat
  | (.string bytes, d) => bytes.length + uptoBulk d + 1
  | (_, d) => uptoBulk d + 1
 end
def uptoSmall : (H : Type) → List (DataW H) → Bool := fun _ ds => decide (uptoBulkAll ds ≤ 1048576)
def OpenSpec.upto (s : _root_.Go.ChangeSpec) : _root_.Go.OpenSpec := { _root_.Go.OpenSpec.ofChange s with cond := some uptoSmall }

/-- 'kinoralaw16.FrameMoved', WHERE WHAT IT READS IS OF BULK AT MOST 1048576: true; the input reads as it did. -/
def frameMovedUptoRow : OpenClaim := { program := "ytjoohiokfkdfpaagreatdoor", sum := "0ee5eab1f36b27fe07257f4710295f61ad5eefaddd05e674cfe9d0b905509dc5", func := "kinora/kinoralaw16.FrameMoved", spec := "frameMoved", unfollowed := true, recurses := true, named := ["math/bits.deBruijn64tab"], apart := false, laid := [("math/bits.deBruijn64tab", laid_math_bits_deBruijn64tab)], narrowed := true }
def FrameMovedUptoSaid : Prop := frameMovedUptoRow.holds Tryz.pinned (OpenSpec.upto frameMovedSpec)

/-- 'kinoralaw15.SubBests', WHERE WHAT IT READS IS OF BULK AT MOST 1048576: true; the input reads as it did. -/
def subBestsUptoRow : OpenClaim := { program := "ytjoohiokfkdfpaagreatdoor", sum := "0ee5eab1f36b27fe07257f4710295f61ad5eefaddd05e674cfe9d0b905509dc5", func := "kinora/kinoralaw15.SubBests", spec := "subBests", unfollowed := true, recurses := true, named := ["math/bits.deBruijn64tab"], apart := false, laid := [("math/bits.deBruijn64tab", laid_math_bits_deBruijn64tab)], narrowed := true }
def SubBestsUptoSaid : Prop := subBestsUptoRow.holds Tryz.pinned (OpenSpec.upto subBestsSpec)

/-- 'kinoralaw16.FrameEffort', WHERE WHAT IT READS IS OF BULK AT MOST 1048576: true; the input reads as it did. -/
def frameEffortUptoRow : OpenClaim := { program := "ytjoohiokfkdfpaagreatdoor", sum := "0ee5eab1f36b27fe07257f4710295f61ad5eefaddd05e674cfe9d0b905509dc5", func := "kinora/kinoralaw16.FrameEffort", spec := "frameEffort", unfollowed := true, recurses := true, named := ["math/bits.deBruijn64tab"], apart := false, laid := [("math/bits.deBruijn64tab", laid_math_bits_deBruijn64tab)], narrowed := true }
def FrameEffortUptoSaid : Prop := frameEffortUptoRow.holds Tryz.pinned (OpenSpec.upto frameEffortSpec)

/-- 'kinoralaw15.SubAgain', WHERE WHAT IT READS IS OF BULK AT MOST 1048576: true; the input reads as it did. -/
def subAgainUptoRow : OpenClaim := { program := "ytjoohiokfkdfpaagreatdoor", sum := "0ee5eab1f36b27fe07257f4710295f61ad5eefaddd05e674cfe9d0b905509dc5", func := "kinora/kinoralaw15.SubAgain", spec := "subAgain", unfollowed := true, recurses := true, named := ["math/bits.deBruijn64tab"], apart := false, laid := [("math/bits.deBruijn64tab", laid_math_bits_deBruijn64tab)], narrowed := true }
def SubAgainUptoSaid : Prop := subAgainUptoRow.holds Tryz.pinned (OpenSpec.upto subAgainSpec)

/-- 'kinoralaw16.FrameReads', WHERE WHAT IT READS IS OF BULK AT MOST 1048576: true; the input reads as it did. -/
def frameReadsUptoRow : OpenClaim := { program := "ytjoohiokfkdfpaagreatdoor", sum := "0ee5eab1f36b27fe07257f4710295f61ad5eefaddd05e674cfe9d0b905509dc5", func := "kinora/kinoralaw16.FrameReads", spec := "frameReads", unfollowed := true, recurses := true, named := ["math/bits.deBruijn64tab"], apart := false, laid := [("math/bits.deBruijn64tab", laid_math_bits_deBruijn64tab)], narrowed := true }
def FrameReadsUptoSaid : Prop := frameReadsUptoRow.holds Tryz.pinned (OpenSpec.upto frameReadsSpec)

/-- 'kinoralaw18.WaveTrack', WHERE WHAT IT READS IS OF BULK AT MOST 1048576: true; the input reads as it did. -/
def waveTrackUptoRow : OpenClaim := { program := "ytjoohiokfkdfpaagreatdoor", sum := "0ee5eab1f36b27fe07257f4710295f61ad5eefaddd05e674cfe9d0b905509dc5", func := "kinora/kinoralaw18.WaveTrack", spec := "waveTrack", inPlace := ["math/bits.Add64"], unfollowed := true, recurses := true, named := ["math/bits.deBruijn64tab", "math/bits.divideError", "math/bits.overflowError"], apart := false, laid := [("math/bits.deBruijn64tab", laid_math_bits_deBruijn64tab)], narrowed := true }
def WaveTrackUptoSaid : Prop := waveTrackUptoRow.holds Tryz.pinned (OpenSpec.upto waveTrackSpec)

end Rows
end Go.Proofs.YtjoohiokfkdfpaaGreatDoor
