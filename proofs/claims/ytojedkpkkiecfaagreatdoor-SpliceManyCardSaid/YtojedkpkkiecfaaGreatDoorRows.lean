/-
  NARROWER THAN 'FOR EVERY INPUT', by the rows' own cells (each row's printed sentence says how): SpliceIs: laid · SpliceFrames: laid · SpliceBoth: laid · SpliceHalves: laid · SpliceOrder: laid · SpliceMany: laid.
  DERIVED. THE GIVEN ROWS OF THIS SEAT. 6 by the template 'for every input the law returns true; each argument reads behind the call as it read before'; 0 by the template 'total and deterministic' (their statements: YtojedkpkkiecfaaGreatDoorTotals.lean).
  GIVEN WITH THE SEED: the statements are not yours to turn. If you find one false, say at which input.
  Laid BY PROGRAM, IN A SANDBOX (cutbox-rows.mjs): the forced cells as the released guide's own fill.sh prints them over the translation a8ecf86eba1fd119… (all of the seat's roots in one cut). By AI agents, Wed Nov 11 2026. No macro, syntax, notation, axiom, sorry.
-/
import Derived.Test.YtojedkpkkiecfaaGreatDoorChecked
import GoSem.Claim
import GoSem.ClaimJoined
import GoSem.ClaimMapViews
import Derived.JoinedTies
import Derived.KernelRfl
namespace Go.Proofs.YtojedkpkkiecfaaGreatDoor
/- THE CELL 'sum', in the pinned program and in every row, IS THE sha256 OF THE DUMP (.gsa) THAT YtojedkpkkiecfaaGreatDoorProg.lean LOADS. Nothing in Lean hashes anything: it is a label: what it is worth is what the hold of that sum in a sandbox is worth. -/
noncomputable def Tryz.pinned : Pinned := { name := "ytojedkpkkiecfaagreatdoor", sum := "a8ecf86eba1fd119213177fbc41bb98f10dec9139374131755fe9b792692e362", checked := Tryz.checked }
namespace Rows
def none {H : Type} : Left H := { results := [], args := [] }

/- WHAT THE LISTED PACKAGE-LEVEL VARIABLES READ AS WHEN THE CALL BEGINS. Each datum BY PROGRAM (the guide's laid-datum.mjs) off the statement by which the dump's own 'gosem.cut.vars' lays the variable. In a bare row this is a premise. The card (YtojedkpkkiecfaaGreatDoorCards.lean) ties it to the program's text. -/
def laid_math_bits_deBruijn64tab {H : Type} : DataW H := .agg [.lit (.int .u8 0), .lit (.int .u8 1), .lit (.int .u8 56), .lit (.int .u8 2), .lit (.int .u8 57), .lit (.int .u8 49), .lit (.int .u8 28), .lit (.int .u8 3), .lit (.int .u8 61), .lit (.int .u8 58), .lit (.int .u8 42), .lit (.int .u8 50), .lit (.int .u8 38), .lit (.int .u8 29), .lit (.int .u8 17), .lit (.int .u8 4), .lit (.int .u8 62), .lit (.int .u8 47), .lit (.int .u8 59), .lit (.int .u8 36), .lit (.int .u8 45), .lit (.int .u8 43), .lit (.int .u8 51), .lit (.int .u8 22), .lit (.int .u8 53), .lit (.int .u8 39), .lit (.int .u8 33), .lit (.int .u8 30), .lit (.int .u8 24), .lit (.int .u8 18), .lit (.int .u8 12), .lit (.int .u8 5), .lit (.int .u8 63), .lit (.int .u8 55), .lit (.int .u8 48), .lit (.int .u8 27), .lit (.int .u8 60), .lit (.int .u8 41), .lit (.int .u8 37), .lit (.int .u8 16), .lit (.int .u8 46), .lit (.int .u8 35), .lit (.int .u8 44), .lit (.int .u8 21), .lit (.int .u8 52), .lit (.int .u8 32), .lit (.int .u8 23), .lit (.int .u8 11), .lit (.int .u8 54), .lit (.int .u8 26), .lit (.int .u8 40), .lit (.int .u8 15), .lit (.int .u8 34), .lit (.int .u8 20), .lit (.int .u8 31), .lit (.int .u8 10), .lit (.int .u8 25), .lit (.int .u8 14), .lit (.int .u8 19), .lit (.int .u8 9), .lit (.int .u8 13), .lit (.int .u8 8), .lit (.int .u8 7), .lit (.int .u8 6)]

/-- 'kinoralaw19.SpliceIs': WHATEVER THE INPUT: true; the input reads as it did. -/
def spliceIsSpec : ChangeSpec := { name := "spliceIs", fn := fun _ => fun
  | [d1, d2, d3, d4, d5, d6, d7] => { results := [.lit (.bool true)], args := [d1, d2, d3, d4, d5, d6, d7] }
  | _ => none }
def spliceIsRow : OpenClaim := { program := "ytojedkpkkiecfaagreatdoor", sum := "a8ecf86eba1fd119213177fbc41bb98f10dec9139374131755fe9b792692e362", func := "kinora/kinoralaw19.SpliceIs", spec := "spliceIs", inPlace := ["math/bits.Add64"], unfollowed := true, recurses := true, named := ["math/bits.deBruijn64tab", "math/bits.divideError", "math/bits.overflowError"], apart := false, laid := [("math/bits.deBruijn64tab", laid_math_bits_deBruijn64tab)] }
def SpliceIsSaid : Prop := spliceIsRow.holds Tryz.pinned (OpenSpec.ofChange spliceIsSpec)

/-- ITS FALSE NEIGHBOUR: 'it returns false'. Refute it at one input. -/
def spliceIsWrong : ChangeSpec := { name := "spliceIs", fn := fun _ => fun
  | [d1, d2, d3, d4, d5, d6, d7] => { results := [.lit (.bool false)], args := [d1, d2, d3, d4, d5, d6, d7] }
  | _ => none }
def SpliceIsWrongFalsely : Prop := spliceIsRow.holds Tryz.pinned (OpenSpec.ofChange spliceIsWrong)

/-- 'kinoralaw19.SpliceFrames': WHATEVER THE INPUT: true; the input reads as it did. -/
def spliceFramesSpec : ChangeSpec := { name := "spliceFrames", fn := fun _ => fun
  | [d1, d2, d3, d4, d5] => { results := [.lit (.bool true)], args := [d1, d2, d3, d4, d5] }
  | _ => none }
def spliceFramesRow : OpenClaim := { program := "ytojedkpkkiecfaagreatdoor", sum := "a8ecf86eba1fd119213177fbc41bb98f10dec9139374131755fe9b792692e362", func := "kinora/kinoralaw19.SpliceFrames", spec := "spliceFrames", inPlace := ["math/bits.Add64"], unfollowed := true, recurses := true, named := ["math/bits.deBruijn64tab", "math/bits.divideError", "math/bits.overflowError"], apart := false, laid := [("math/bits.deBruijn64tab", laid_math_bits_deBruijn64tab)] }
def SpliceFramesSaid : Prop := spliceFramesRow.holds Tryz.pinned (OpenSpec.ofChange spliceFramesSpec)

/-- ITS FALSE NEIGHBOUR: 'it returns false'. Refute it at one input. -/
def spliceFramesWrong : ChangeSpec := { name := "spliceFrames", fn := fun _ => fun
  | [d1, d2, d3, d4, d5] => { results := [.lit (.bool false)], args := [d1, d2, d3, d4, d5] }
  | _ => none }
def SpliceFramesWrongFalsely : Prop := spliceFramesRow.holds Tryz.pinned (OpenSpec.ofChange spliceFramesWrong)

/-- 'kinoralaw19.SpliceBoth': WHATEVER THE INPUT: true; the input reads as it did. -/
def spliceBothSpec : ChangeSpec := { name := "spliceBoth", fn := fun _ => fun
  | [d1, d2, d3, d4, d5, d6] => { results := [.lit (.bool true)], args := [d1, d2, d3, d4, d5, d6] }
  | _ => none }
def spliceBothRow : OpenClaim := { program := "ytojedkpkkiecfaagreatdoor", sum := "a8ecf86eba1fd119213177fbc41bb98f10dec9139374131755fe9b792692e362", func := "kinora/kinoralaw19.SpliceBoth", spec := "spliceBoth", inPlace := ["math/bits.Add64"], unfollowed := true, recurses := true, named := ["math/bits.deBruijn64tab", "math/bits.divideError", "math/bits.overflowError"], apart := false, laid := [("math/bits.deBruijn64tab", laid_math_bits_deBruijn64tab)] }
def SpliceBothSaid : Prop := spliceBothRow.holds Tryz.pinned (OpenSpec.ofChange spliceBothSpec)

/-- ITS FALSE NEIGHBOUR: 'it returns false'. Refute it at one input. -/
def spliceBothWrong : ChangeSpec := { name := "spliceBoth", fn := fun _ => fun
  | [d1, d2, d3, d4, d5, d6] => { results := [.lit (.bool false)], args := [d1, d2, d3, d4, d5, d6] }
  | _ => none }
def SpliceBothWrongFalsely : Prop := spliceBothRow.holds Tryz.pinned (OpenSpec.ofChange spliceBothWrong)

/-- 'kinoralaw19.SpliceHalves': WHATEVER THE INPUT: true; the input reads as it did. -/
def spliceHalvesSpec : ChangeSpec := { name := "spliceHalves", fn := fun _ => fun
  | [d1, d2, d3, d4, d5] => { results := [.lit (.bool true)], args := [d1, d2, d3, d4, d5] }
  | _ => none }
def spliceHalvesRow : OpenClaim := { program := "ytojedkpkkiecfaagreatdoor", sum := "a8ecf86eba1fd119213177fbc41bb98f10dec9139374131755fe9b792692e362", func := "kinora/kinoralaw19.SpliceHalves", spec := "spliceHalves", inPlace := ["math/bits.Add64"], unfollowed := true, recurses := true, named := ["math/bits.deBruijn64tab", "math/bits.divideError", "math/bits.overflowError"], apart := false, laid := [("math/bits.deBruijn64tab", laid_math_bits_deBruijn64tab)] }
def SpliceHalvesSaid : Prop := spliceHalvesRow.holds Tryz.pinned (OpenSpec.ofChange spliceHalvesSpec)

/-- ITS FALSE NEIGHBOUR: 'it returns false'. Refute it at one input. -/
def spliceHalvesWrong : ChangeSpec := { name := "spliceHalves", fn := fun _ => fun
  | [d1, d2, d3, d4, d5] => { results := [.lit (.bool false)], args := [d1, d2, d3, d4, d5] }
  | _ => none }
def SpliceHalvesWrongFalsely : Prop := spliceHalvesRow.holds Tryz.pinned (OpenSpec.ofChange spliceHalvesWrong)

/-- 'kinoralaw19.SpliceOrder': WHATEVER THE INPUT: true; the input reads as it did. -/
def spliceOrderSpec : ChangeSpec := { name := "spliceOrder", fn := fun _ => fun
  | [d1, d2, d3, d4, d5, d6, d7, d8] => { results := [.lit (.bool true)], args := [d1, d2, d3, d4, d5, d6, d7, d8] }
  | _ => none }
def spliceOrderRow : OpenClaim := { program := "ytojedkpkkiecfaagreatdoor", sum := "a8ecf86eba1fd119213177fbc41bb98f10dec9139374131755fe9b792692e362", func := "kinora/kinoralaw19.SpliceOrder", spec := "spliceOrder", inPlace := ["math/bits.Add64"], unfollowed := true, recurses := true, named := ["math/bits.deBruijn64tab", "math/bits.divideError", "math/bits.overflowError"], apart := false, laid := [("math/bits.deBruijn64tab", laid_math_bits_deBruijn64tab)] }
def SpliceOrderSaid : Prop := spliceOrderRow.holds Tryz.pinned (OpenSpec.ofChange spliceOrderSpec)

/-- ITS FALSE NEIGHBOUR: 'it returns false'. Refute it at one input. -/
def spliceOrderWrong : ChangeSpec := { name := "spliceOrder", fn := fun _ => fun
  | [d1, d2, d3, d4, d5, d6, d7, d8] => { results := [.lit (.bool false)], args := [d1, d2, d3, d4, d5, d6, d7, d8] }
  | _ => none }
def SpliceOrderWrongFalsely : Prop := spliceOrderRow.holds Tryz.pinned (OpenSpec.ofChange spliceOrderWrong)

/-- 'kinoralaw19.SpliceMany': WHATEVER THE INPUT: true; the input reads as it did. -/
def spliceManySpec : ChangeSpec := { name := "spliceMany", fn := fun _ => fun
  | [d1, d2, d3, d4, d5] => { results := [.lit (.bool true)], args := [d1, d2, d3, d4, d5] }
  | _ => none }
def spliceManyRow : OpenClaim := { program := "ytojedkpkkiecfaagreatdoor", sum := "a8ecf86eba1fd119213177fbc41bb98f10dec9139374131755fe9b792692e362", func := "kinora/kinoralaw19.SpliceMany", spec := "spliceMany", inPlace := ["math/bits.Add64"], unfollowed := true, recurses := true, named := ["math/bits.deBruijn64tab", "math/bits.divideError", "math/bits.overflowError"], apart := false, laid := [("math/bits.deBruijn64tab", laid_math_bits_deBruijn64tab)] }
def SpliceManySaid : Prop := spliceManyRow.holds Tryz.pinned (OpenSpec.ofChange spliceManySpec)

/-- ITS FALSE NEIGHBOUR: 'it returns false'. Refute it at one input. -/
def spliceManyWrong : ChangeSpec := { name := "spliceMany", fn := fun _ => fun
  | [d1, d2, d3, d4, d5] => { results := [.lit (.bool false)], args := [d1, d2, d3, d4, d5] }
  | _ => none }
def SpliceManyWrongFalsely : Prop := spliceManyRow.holds Tryz.pinned (OpenSpec.ofChange spliceManyWrong)

/- THE SECOND FORM. 'bulk': how many values and letters a reading holds, each counted each time it is reached (what is shared counts as often as it is met; a slice's spare places count too). A statement '..UptoSaid' is the law's where the arguments, and the package variables that the reading takes, are together of bulk at most 1048576: NARROWER than '..Said'. Prove '..Said' where nothing that the law and all that it calls make is longer than what came in: it says more and counts as full. Else prove '..UptoSaid'. A law counts once. -/
mutual
def uptoBulk {H : Type} : DataW H → Nat
  | .lit (.string bytes) => bytes.length + 1
  | .lit _ => 1
  | .nil => 1
  | .ptr d => uptoBulk d + 1
  | .slice elems spare => uptoBulkAll elems + uptoBulkAll spare + 1
  | .agg parts => uptoBulkAll parts + 1
  | .iface _ d => uptoBulk d + 1
  | .map entries => uptoBulkEntries entries + 1
  | .held _ => 1
def uptoBulkAll {H : Type} : List (DataW H) → Nat
  | [] => 0
  | d :: r => uptoBulk d + uptoBulkAll r
def uptoBulkEntries {H : Type} : List (Lit × DataW H) → Nat
  | [] => 0
  | x :: r => uptoBulkEntry x + uptoBulkEntries r
def uptoBulkEntry {H : Type} : Lit × DataW H → Nat
  | (.string bytes, d) => bytes.length + uptoBulk d + 1
  | (_, d) => uptoBulk d + 1
 end
def uptoSmall : (H : Type) → List (DataW H) → Bool := fun _ ds => decide (uptoBulkAll ds ≤ 1048576)
def OpenSpec.upto (s : _root_.Go.ChangeSpec) : _root_.Go.OpenSpec := { _root_.Go.OpenSpec.ofChange s with cond := some uptoSmall }

/-- 'kinoralaw19.SpliceIs', WHERE WHAT IT READS IS OF BULK AT MOST 1048576: true; the input reads as it did. -/
def spliceIsUptoRow : OpenClaim := { program := "ytojedkpkkiecfaagreatdoor", sum := "a8ecf86eba1fd119213177fbc41bb98f10dec9139374131755fe9b792692e362", func := "kinora/kinoralaw19.SpliceIs", spec := "spliceIs", inPlace := ["math/bits.Add64"], unfollowed := true, recurses := true, named := ["math/bits.deBruijn64tab", "math/bits.divideError", "math/bits.overflowError"], apart := false, laid := [("math/bits.deBruijn64tab", laid_math_bits_deBruijn64tab)], narrowed := true }
def SpliceIsUptoSaid : Prop := spliceIsUptoRow.holds Tryz.pinned (OpenSpec.upto spliceIsSpec)

/-- 'kinoralaw19.SpliceFrames', WHERE WHAT IT READS IS OF BULK AT MOST 1048576: true; the input reads as it did. -/
def spliceFramesUptoRow : OpenClaim := { program := "ytojedkpkkiecfaagreatdoor", sum := "a8ecf86eba1fd119213177fbc41bb98f10dec9139374131755fe9b792692e362", func := "kinora/kinoralaw19.SpliceFrames", spec := "spliceFrames", inPlace := ["math/bits.Add64"], unfollowed := true, recurses := true, named := ["math/bits.deBruijn64tab", "math/bits.divideError", "math/bits.overflowError"], apart := false, laid := [("math/bits.deBruijn64tab", laid_math_bits_deBruijn64tab)], narrowed := true }
def SpliceFramesUptoSaid : Prop := spliceFramesUptoRow.holds Tryz.pinned (OpenSpec.upto spliceFramesSpec)

/-- 'kinoralaw19.SpliceBoth', WHERE WHAT IT READS IS OF BULK AT MOST 1048576: true; the input reads as it did. -/
def spliceBothUptoRow : OpenClaim := { program := "ytojedkpkkiecfaagreatdoor", sum := "a8ecf86eba1fd119213177fbc41bb98f10dec9139374131755fe9b792692e362", func := "kinora/kinoralaw19.SpliceBoth", spec := "spliceBoth", inPlace := ["math/bits.Add64"], unfollowed := true, recurses := true, named := ["math/bits.deBruijn64tab", "math/bits.divideError", "math/bits.overflowError"], apart := false, laid := [("math/bits.deBruijn64tab", laid_math_bits_deBruijn64tab)], narrowed := true }
def SpliceBothUptoSaid : Prop := spliceBothUptoRow.holds Tryz.pinned (OpenSpec.upto spliceBothSpec)

/-- 'kinoralaw19.SpliceHalves', WHERE WHAT IT READS IS OF BULK AT MOST 1048576: true; the input reads as it did. -/
def spliceHalvesUptoRow : OpenClaim := { program := "ytojedkpkkiecfaagreatdoor", sum := "a8ecf86eba1fd119213177fbc41bb98f10dec9139374131755fe9b792692e362", func := "kinora/kinoralaw19.SpliceHalves", spec := "spliceHalves", inPlace := ["math/bits.Add64"], unfollowed := true, recurses := true, named := ["math/bits.deBruijn64tab", "math/bits.divideError", "math/bits.overflowError"], apart := false, laid := [("math/bits.deBruijn64tab", laid_math_bits_deBruijn64tab)], narrowed := true }
def SpliceHalvesUptoSaid : Prop := spliceHalvesUptoRow.holds Tryz.pinned (OpenSpec.upto spliceHalvesSpec)

/-- 'kinoralaw19.SpliceOrder', WHERE WHAT IT READS IS OF BULK AT MOST 1048576: true; the input reads as it did. -/
def spliceOrderUptoRow : OpenClaim := { program := "ytojedkpkkiecfaagreatdoor", sum := "a8ecf86eba1fd119213177fbc41bb98f10dec9139374131755fe9b792692e362", func := "kinora/kinoralaw19.SpliceOrder", spec := "spliceOrder", inPlace := ["math/bits.Add64"], unfollowed := true, recurses := true, named := ["math/bits.deBruijn64tab", "math/bits.divideError", "math/bits.overflowError"], apart := false, laid := [("math/bits.deBruijn64tab", laid_math_bits_deBruijn64tab)], narrowed := true }
def SpliceOrderUptoSaid : Prop := spliceOrderUptoRow.holds Tryz.pinned (OpenSpec.upto spliceOrderSpec)

/-- 'kinoralaw19.SpliceMany', WHERE WHAT IT READS IS OF BULK AT MOST 1048576: true; the input reads as it did. -/
def spliceManyUptoRow : OpenClaim := { program := "ytojedkpkkiecfaagreatdoor", sum := "a8ecf86eba1fd119213177fbc41bb98f10dec9139374131755fe9b792692e362", func := "kinora/kinoralaw19.SpliceMany", spec := "spliceMany", inPlace := ["math/bits.Add64"], unfollowed := true, recurses := true, named := ["math/bits.deBruijn64tab", "math/bits.divideError", "math/bits.overflowError"], apart := false, laid := [("math/bits.deBruijn64tab", laid_math_bits_deBruijn64tab)], narrowed := true }
def SpliceManyUptoSaid : Prop := spliceManyUptoRow.holds Tryz.pinned (OpenSpec.upto spliceManySpec)

end Rows
end Go.Proofs.YtojedkpkkiecfaaGreatDoor
