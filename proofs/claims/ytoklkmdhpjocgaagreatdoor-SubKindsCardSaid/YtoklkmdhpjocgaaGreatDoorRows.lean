/-
  NARROWER THAN 'FOR EVERY INPUT', by the rows' own cells (each row's printed sentence says how): SubTells: laid · SubBests: laid · SubShifts: laid · SubAgain: laid · SubPuts: laid · SubKinds: laid · SubBack: laid.
  DERIVED. THE GIVEN ROWS OF THIS SEAT. 7 by the template 'for every input the law returns true; each argument reads behind the call as it read before'; 0 by the template 'total and deterministic' (their statements: YtoklkmdhpjocgaaGreatDoorTotals.lean).
  GIVEN WITH THE SEED: the statements are not yours to turn. If you find one false, say at which input.
  Laid BY PROGRAM, IN A SANDBOX (cutbox-rows.mjs): the forced cells as the released guide's own fill.sh prints them over the translation 655ee412175eac7b… (all of the seat's roots in one cut). By AI agents, Wed Nov 11 2026. No macro, syntax, notation, axiom, sorry.
-/
import Derived.Test.YtoklkmdhpjocgaaGreatDoorChecked
import GoSem.Claim
import GoSem.ClaimJoined
import GoSem.ClaimMapViews
import Derived.JoinedTies
import Derived.KernelRfl
namespace Go.Proofs.YtoklkmdhpjocgaaGreatDoor
/- THE CELL 'sum', in the pinned program and in every row, IS THE sha256 OF THE DUMP (.gsa) THAT YtoklkmdhpjocgaaGreatDoorProg.lean LOADS. Nothing in Lean hashes anything: it is a label: what it is worth is what the hold of that sum in a sandbox is worth. -/
noncomputable def Tryz.pinned : Pinned := { name := "ytoklkmdhpjocgaagreatdoor", sum := "655ee412175eac7b47738be485ad0039dbe74eeca62c22d30533718b1136aed0", checked := Tryz.checked }
namespace Rows
def none {H : Type} : Left H := { results := [], args := [] }

/- WHAT THE LISTED PACKAGE-LEVEL VARIABLES READ AS WHEN THE CALL BEGINS. Each datum BY PROGRAM (the guide's laid-datum.mjs) off the statement by which the dump's own 'gosem.cut.vars' lays the variable. In a bare row this is a premise. The card (YtoklkmdhpjocgaaGreatDoorCards.lean) ties it to the program's text. -/
def laid_math_bits_deBruijn64tab {H : Type} : DataW H := .agg [.lit (.int .u8 0), .lit (.int .u8 1), .lit (.int .u8 56), .lit (.int .u8 2), .lit (.int .u8 57), .lit (.int .u8 49), .lit (.int .u8 28), .lit (.int .u8 3), .lit (.int .u8 61), .lit (.int .u8 58), .lit (.int .u8 42), .lit (.int .u8 50), .lit (.int .u8 38), .lit (.int .u8 29), .lit (.int .u8 17), .lit (.int .u8 4), .lit (.int .u8 62), .lit (.int .u8 47), .lit (.int .u8 59), .lit (.int .u8 36), .lit (.int .u8 45), .lit (.int .u8 43), .lit (.int .u8 51), .lit (.int .u8 22), .lit (.int .u8 53), .lit (.int .u8 39), .lit (.int .u8 33), .lit (.int .u8 30), .lit (.int .u8 24), .lit (.int .u8 18), .lit (.int .u8 12), .lit (.int .u8 5), .lit (.int .u8 63), .lit (.int .u8 55), .lit (.int .u8 48), .lit (.int .u8 27), .lit (.int .u8 60), .lit (.int .u8 41), .lit (.int .u8 37), .lit (.int .u8 16), .lit (.int .u8 46), .lit (.int .u8 35), .lit (.int .u8 44), .lit (.int .u8 21), .lit (.int .u8 52), .lit (.int .u8 32), .lit (.int .u8 23), .lit (.int .u8 11), .lit (.int .u8 54), .lit (.int .u8 26), .lit (.int .u8 40), .lit (.int .u8 15), .lit (.int .u8 34), .lit (.int .u8 20), .lit (.int .u8 31), .lit (.int .u8 10), .lit (.int .u8 25), .lit (.int .u8 14), .lit (.int .u8 19), .lit (.int .u8 9), .lit (.int .u8 13), .lit (.int .u8 8), .lit (.int .u8 7), .lit (.int .u8 6)]

/-- 'kinoralaw15.SubTells': WHATEVER THE INPUT: true; the input reads as it did. -/
def subTellsSpec : ChangeSpec := { name := "subTells", fn := fun _ => fun
  | [d1, d2] => { results := [.lit (.bool true)], args := [d1, d2] }
  | _ => none }
def subTellsRow : OpenClaim := { program := "ytoklkmdhpjocgaagreatdoor", sum := "655ee412175eac7b47738be485ad0039dbe74eeca62c22d30533718b1136aed0", func := "kinora/kinoralaw15.SubTells", spec := "subTells", unfollowed := true, recurses := true, named := ["math/bits.deBruijn64tab"], apart := false, laid := [("math/bits.deBruijn64tab", laid_math_bits_deBruijn64tab)] }
def SubTellsSaid : Prop := subTellsRow.holds Tryz.pinned (OpenSpec.ofChange subTellsSpec)

/-- ITS FALSE NEIGHBOUR: 'it returns false'. Refute it at one input. -/
def subTellsWrong : ChangeSpec := { name := "subTells", fn := fun _ => fun
  | [d1, d2] => { results := [.lit (.bool false)], args := [d1, d2] }
  | _ => none }
def SubTellsWrongFalsely : Prop := subTellsRow.holds Tryz.pinned (OpenSpec.ofChange subTellsWrong)

/-- 'kinoralaw15.SubBests': WHATEVER THE INPUT: true; the input reads as it did. -/
def subBestsSpec : ChangeSpec := { name := "subBests", fn := fun _ => fun
  | [d1, d2] => { results := [.lit (.bool true)], args := [d1, d2] }
  | _ => none }
def subBestsRow : OpenClaim := { program := "ytoklkmdhpjocgaagreatdoor", sum := "655ee412175eac7b47738be485ad0039dbe74eeca62c22d30533718b1136aed0", func := "kinora/kinoralaw15.SubBests", spec := "subBests", unfollowed := true, recurses := true, named := ["math/bits.deBruijn64tab"], apart := false, laid := [("math/bits.deBruijn64tab", laid_math_bits_deBruijn64tab)] }
def SubBestsSaid : Prop := subBestsRow.holds Tryz.pinned (OpenSpec.ofChange subBestsSpec)

/-- ITS FALSE NEIGHBOUR: 'it returns false'. Refute it at one input. -/
def subBestsWrong : ChangeSpec := { name := "subBests", fn := fun _ => fun
  | [d1, d2] => { results := [.lit (.bool false)], args := [d1, d2] }
  | _ => none }
def SubBestsWrongFalsely : Prop := subBestsRow.holds Tryz.pinned (OpenSpec.ofChange subBestsWrong)

/-- 'kinoralaw15.SubShifts': WHATEVER THE INPUT: true; the input reads as it did. -/
def subShiftsSpec : ChangeSpec := { name := "subShifts", fn := fun _ => fun
  | [d1, d2, d3] => { results := [.lit (.bool true)], args := [d1, d2, d3] }
  | _ => none }
def subShiftsRow : OpenClaim := { program := "ytoklkmdhpjocgaagreatdoor", sum := "655ee412175eac7b47738be485ad0039dbe74eeca62c22d30533718b1136aed0", func := "kinora/kinoralaw15.SubShifts", spec := "subShifts", unfollowed := true, recurses := true, named := ["math/bits.deBruijn64tab"], apart := false, laid := [("math/bits.deBruijn64tab", laid_math_bits_deBruijn64tab)] }
def SubShiftsSaid : Prop := subShiftsRow.holds Tryz.pinned (OpenSpec.ofChange subShiftsSpec)

/-- ITS FALSE NEIGHBOUR: 'it returns false'. Refute it at one input. -/
def subShiftsWrong : ChangeSpec := { name := "subShifts", fn := fun _ => fun
  | [d1, d2, d3] => { results := [.lit (.bool false)], args := [d1, d2, d3] }
  | _ => none }
def SubShiftsWrongFalsely : Prop := subShiftsRow.holds Tryz.pinned (OpenSpec.ofChange subShiftsWrong)

/-- 'kinoralaw15.SubAgain': WHATEVER THE INPUT: true; the input reads as it did. -/
def subAgainSpec : ChangeSpec := { name := "subAgain", fn := fun _ => fun
  | [d1, d2, d3] => { results := [.lit (.bool true)], args := [d1, d2, d3] }
  | _ => none }
def subAgainRow : OpenClaim := { program := "ytoklkmdhpjocgaagreatdoor", sum := "655ee412175eac7b47738be485ad0039dbe74eeca62c22d30533718b1136aed0", func := "kinora/kinoralaw15.SubAgain", spec := "subAgain", unfollowed := true, recurses := true, named := ["math/bits.deBruijn64tab"], apart := false, laid := [("math/bits.deBruijn64tab", laid_math_bits_deBruijn64tab)] }
def SubAgainSaid : Prop := subAgainRow.holds Tryz.pinned (OpenSpec.ofChange subAgainSpec)

/-- ITS FALSE NEIGHBOUR: 'it returns false'. Refute it at one input. -/
def subAgainWrong : ChangeSpec := { name := "subAgain", fn := fun _ => fun
  | [d1, d2, d3] => { results := [.lit (.bool false)], args := [d1, d2, d3] }
  | _ => none }
def SubAgainWrongFalsely : Prop := subAgainRow.holds Tryz.pinned (OpenSpec.ofChange subAgainWrong)

/-- 'kinoralaw15.SubPuts': WHATEVER THE INPUT: true; the input reads as it did. -/
def subPutsSpec : ChangeSpec := { name := "subPuts", fn := fun _ => fun
  | [d1, d2, d3] => { results := [.lit (.bool true)], args := [d1, d2, d3] }
  | _ => none }
def subPutsRow : OpenClaim := { program := "ytoklkmdhpjocgaagreatdoor", sum := "655ee412175eac7b47738be485ad0039dbe74eeca62c22d30533718b1136aed0", func := "kinora/kinoralaw15.SubPuts", spec := "subPuts", unfollowed := true, recurses := true, named := ["math/bits.deBruijn64tab"], apart := false, laid := [("math/bits.deBruijn64tab", laid_math_bits_deBruijn64tab)] }
def SubPutsSaid : Prop := subPutsRow.holds Tryz.pinned (OpenSpec.ofChange subPutsSpec)

/-- ITS FALSE NEIGHBOUR: 'it returns false'. Refute it at one input. -/
def subPutsWrong : ChangeSpec := { name := "subPuts", fn := fun _ => fun
  | [d1, d2, d3] => { results := [.lit (.bool false)], args := [d1, d2, d3] }
  | _ => none }
def SubPutsWrongFalsely : Prop := subPutsRow.holds Tryz.pinned (OpenSpec.ofChange subPutsWrong)

/-- 'kinoralaw15.SubKinds': WHATEVER THE INPUT: true; the input reads as it did. -/
def subKindsSpec : ChangeSpec := { name := "subKinds", fn := fun _ => fun
  | [d1, d2, d3] => { results := [.lit (.bool true)], args := [d1, d2, d3] }
  | _ => none }
def subKindsRow : OpenClaim := { program := "ytoklkmdhpjocgaagreatdoor", sum := "655ee412175eac7b47738be485ad0039dbe74eeca62c22d30533718b1136aed0", func := "kinora/kinoralaw15.SubKinds", spec := "subKinds", unfollowed := true, recurses := true, named := ["math/bits.deBruijn64tab"], apart := false, laid := [("math/bits.deBruijn64tab", laid_math_bits_deBruijn64tab)] }
def SubKindsSaid : Prop := subKindsRow.holds Tryz.pinned (OpenSpec.ofChange subKindsSpec)

/-- ITS FALSE NEIGHBOUR: 'it returns false'. Refute it at one input. -/
def subKindsWrong : ChangeSpec := { name := "subKinds", fn := fun _ => fun
  | [d1, d2, d3] => { results := [.lit (.bool false)], args := [d1, d2, d3] }
  | _ => none }
def SubKindsWrongFalsely : Prop := subKindsRow.holds Tryz.pinned (OpenSpec.ofChange subKindsWrong)

/-- 'kinoralaw15.SubBack': WHATEVER THE INPUT: true; the input reads as it did. -/
def subBackSpec : ChangeSpec := { name := "subBack", fn := fun _ => fun
  | [d1, d2, d3] => { results := [.lit (.bool true)], args := [d1, d2, d3] }
  | _ => none }
def subBackRow : OpenClaim := { program := "ytoklkmdhpjocgaagreatdoor", sum := "655ee412175eac7b47738be485ad0039dbe74eeca62c22d30533718b1136aed0", func := "kinora/kinoralaw15.SubBack", spec := "subBack", unfollowed := true, recurses := true, named := ["math/bits.deBruijn64tab"], apart := false, laid := [("math/bits.deBruijn64tab", laid_math_bits_deBruijn64tab)] }
def SubBackSaid : Prop := subBackRow.holds Tryz.pinned (OpenSpec.ofChange subBackSpec)

/-- ITS FALSE NEIGHBOUR: 'it returns false'. Refute it at one input. -/
def subBackWrong : ChangeSpec := { name := "subBack", fn := fun _ => fun
  | [d1, d2, d3] => { results := [.lit (.bool false)], args := [d1, d2, d3] }
  | _ => none }
def SubBackWrongFalsely : Prop := subBackRow.holds Tryz.pinned (OpenSpec.ofChange subBackWrong)

/- THE SECOND FORM. 'bulk': how many values and letters a reading holds, each counted each time it is reached (what is shared counts as often as it is met; a slice's spare places count too). A statement '..UptoSaid' is the law's where the arguments, and the package variables that the reading takes, are together of bulk at most 1048576: NARROWER than '..Said'. Prove '..Said' where nothing that the law and all that it calls make is longer than what came in: it says more and counts as full. Else prove '..UptoSaid'. A law counts once. -/
mutual
def uptoBulk {H : Type} : DataW H → Nat
  | .lit (.string bytes) => bytes.length + 1
  | .lit _ => 1
  | .nil => 1
  | .ptr d => uptoBulk d + 1
  | .slice elems spare => uptoBulkAll elems + uptoBulkAll spare + 1
  | .agg parts => uptoBulkAll parts + 1
  | .iface _ d => uptoBulk d + 1
  | .map entries => uptoBulkEntries entries + 1
  | .held _ => 1
def uptoBulkAll {H : Type} : List (DataW H) → Nat
  | [] => 0
  | d :: r => uptoBulk d + uptoBulkAll r
def uptoBulkEntries {H : Type} : List (Lit × DataW H) → Nat
  | [] => 0
  | x :: r => uptoBulkEntry x + uptoBulkEntries r
def uptoBulkEntry {H : Type} : Lit × DataW H → Nat
  | (.string bytes, d) => bytes.length + uptoBulk d + 1
  | (_, d) => uptoBulk d + 1
 end
def uptoSmall : (H : Type) → List (DataW H) → Bool := fun _ ds => decide (uptoBulkAll ds ≤ 1048576)
def OpenSpec.upto (s : _root_.Go.ChangeSpec) : _root_.Go.OpenSpec := { _root_.Go.OpenSpec.ofChange s with cond := some uptoSmall }

/-- 'kinoralaw15.SubTells', WHERE WHAT IT READS IS OF BULK AT MOST 1048576: true; the input reads as it did. -/
def subTellsUptoRow : OpenClaim := { program := "ytoklkmdhpjocgaagreatdoor", sum := "655ee412175eac7b47738be485ad0039dbe74eeca62c22d30533718b1136aed0", func := "kinora/kinoralaw15.SubTells", spec := "subTells", unfollowed := true, recurses := true, named := ["math/bits.deBruijn64tab"], apart := false, laid := [("math/bits.deBruijn64tab", laid_math_bits_deBruijn64tab)], narrowed := true }
def SubTellsUptoSaid : Prop := subTellsUptoRow.holds Tryz.pinned (OpenSpec.upto subTellsSpec)

/-- 'kinoralaw15.SubBests', WHERE WHAT IT READS IS OF BULK AT MOST 1048576: true; the input reads as it did. -/
def subBestsUptoRow : OpenClaim := { program := "ytoklkmdhpjocgaagreatdoor", sum := "655ee412175eac7b47738be485ad0039dbe74eeca62c22d30533718b1136aed0", func := "kinora/kinoralaw15.SubBests", spec := "subBests", unfollowed := true, recurses := true, named := ["math/bits.deBruijn64tab"], apart := false, laid := [("math/bits.deBruijn64tab", laid_math_bits_deBruijn64tab)], narrowed := true }
def SubBestsUptoSaid : Prop := subBestsUptoRow.holds Tryz.pinned (OpenSpec.upto subBestsSpec)

/-- 'kinoralaw15.SubShifts', WHERE WHAT IT READS IS OF BULK AT MOST 1048576: true; the input reads as it did. -/
def subShiftsUptoRow : OpenClaim := { program := "ytoklkmdhpjocgaagreatdoor", sum := "655ee412175eac7b47738be485ad0039dbe74eeca62c22d30533718b1136aed0", func := "kinora/kinoralaw15.SubShifts", spec := "subShifts", unfollowed := true, recurses := true, named := ["math/bits.deBruijn64tab"], apart := false, laid := [("math/bits.deBruijn64tab", laid_math_bits_deBruijn64tab)], narrowed := true }
def SubShiftsUptoSaid : Prop := subShiftsUptoRow.holds Tryz.pinned (OpenSpec.upto subShiftsSpec)

/-- 'kinoralaw15.SubAgain', WHERE WHAT IT READS IS OF BULK AT MOST 1048576: true; the input reads as it did. -/
def subAgainUptoRow : OpenClaim := { program := "ytoklkmdhpjocgaagreatdoor", sum := "655ee412175eac7b47738be485ad0039dbe74eeca62c22d30533718b1136aed0", func := "kinora/kinoralaw15.SubAgain", spec := "subAgain", unfollowed := true, recurses := true, named := ["math/bits.deBruijn64tab"], apart := false, laid := [("math/bits.deBruijn64tab", laid_math_bits_deBruijn64tab)], narrowed := true }
def SubAgainUptoSaid : Prop := subAgainUptoRow.holds Tryz.pinned (OpenSpec.upto subAgainSpec)

/-- 'kinoralaw15.SubPuts', WHERE WHAT IT READS IS OF BULK AT MOST 1048576: true; the input reads as it did. -/
def subPutsUptoRow : OpenClaim := { program := "ytoklkmdhpjocgaagreatdoor", sum := "655ee412175eac7b47738be485ad0039dbe74eeca62c22d30533718b1136aed0", func := "kinora/kinoralaw15.SubPuts", spec := "subPuts", unfollowed := true, recurses := true, named := ["math/bits.deBruijn64tab"], apart := false, laid := [("math/bits.deBruijn64tab", laid_math_bits_deBruijn64tab)], narrowed := true }
def SubPutsUptoSaid : Prop := subPutsUptoRow.holds Tryz.pinned (OpenSpec.upto subPutsSpec)

/-- 'kinoralaw15.SubKinds', WHERE WHAT IT READS IS OF BULK AT MOST 1048576: true; the input reads as it did. -/
def subKindsUptoRow : OpenClaim := { program := "ytoklkmdhpjocgaagreatdoor", sum := "655ee412175eac7b47738be485ad0039dbe74eeca62c22d30533718b1136aed0", func := "kinora/kinoralaw15.SubKinds", spec := "subKinds", unfollowed := true, recurses := true, named := ["math/bits.deBruijn64tab"], apart := false, laid := [("math/bits.deBruijn64tab", laid_math_bits_deBruijn64tab)], narrowed := true }
def SubKindsUptoSaid : Prop := subKindsUptoRow.holds Tryz.pinned (OpenSpec.upto subKindsSpec)

/-- 'kinoralaw15.SubBack', WHERE WHAT IT READS IS OF BULK AT MOST 1048576: true; the input reads as it did. -/
def subBackUptoRow : OpenClaim := { program := "ytoklkmdhpjocgaagreatdoor", sum := "655ee412175eac7b47738be485ad0039dbe74eeca62c22d30533718b1136aed0", func := "kinora/kinoralaw15.SubBack", spec := "subBack", unfollowed := true, recurses := true, named := ["math/bits.deBruijn64tab"], apart := false, laid := [("math/bits.deBruijn64tab", laid_math_bits_deBruijn64tab)], narrowed := true }
def SubBackUptoSaid : Prop := subBackUptoRow.holds Tryz.pinned (OpenSpec.upto subBackSpec)

end Rows
end Go.Proofs.YtoklkmdhpjocgaaGreatDoor
