/-
  No cell of these rows narrows 'for every input' (looked for: loops, veiled, ifaces, maps, wideKeys, modest, calm, conditions, laid).
  DERIVED. THE GIVEN ROWS OF THIS SEAT. 5 by the template 'for every input the law returns true; each argument reads behind the call as it read before'; 0 by the template 'total and deterministic' (their statements: YtlddggjghmobhaaGreatTotals.lean).
  GIVEN WITH THE SEED: the statements are not yours to turn. If you find one false, say at which input.
  Laid BY PROGRAM, IN A SANDBOX (cutbox-rows.mjs): the forced cells as the released guide's own fill.sh prints them over the translation f3d5474ec82bdd67… (all of the seat's roots in one cut). By AI agents, Wed Nov 11 2026. No macro, syntax, notation, axiom, sorry.
-/
import Derived.Test.YtlddggjghmobhaaGreatChecked
import GoSem.Claim
import GoSem.ClaimJoined
import GoSem.ClaimMapViews
import Derived.JoinedTies
import Derived.KernelRfl
namespace Go.Proofs.YtlddggjghmobhaaGreat
/- THE CELL 'sum', in the pinned program and in every row, IS THE sha256 OF THE DUMP (.gsa) THAT YtlddggjghmobhaaGreatProg.lean LOADS. Nothing in Lean hashes anything: it is a label: what it is worth is what the hold of that sum in a sandbox is worth. -/
noncomputable def Tryz.pinned : Pinned := { name := "ytlddggjghmobhaagreat", sum := "f3d5474ec82bdd67027bdfcd4d7245cea4e2608ed9d331b75be12be25db9a6e6", checked := Tryz.checked }
namespace Rows
def none {H : Type} : Left H := { results := [], args := [] }

/-- 'kinoralaw36.FileSeeks': WHATEVER THE INPUT: true; the input reads as it did. -/
def fileSeeksSpec : ChangeSpec := { name := "fileSeeks", fn := fun _ => fun
  | [d1, d2, d3] => { results := [.lit (.bool true)], args := [d1, d2, d3] }
  | _ => none }
def fileSeeksRow : OpenClaim := { program := "ytlddggjghmobhaagreat", sum := "f3d5474ec82bdd67027bdfcd4d7245cea4e2608ed9d331b75be12be25db9a6e6", func := "kinora/kinoralaw36.FileSeeks", spec := "fileSeeks", unfollowed := true, recurses := true, apart := false }
def FileSeeksSaid : Prop := fileSeeksRow.holds Tryz.pinned (OpenSpec.ofChange fileSeeksSpec)

/-- ITS FALSE NEIGHBOUR: 'it returns false'. Refute it at one input. -/
def fileSeeksWrong : ChangeSpec := { name := "fileSeeks", fn := fun _ => fun
  | [d1, d2, d3] => { results := [.lit (.bool false)], args := [d1, d2, d3] }
  | _ => none }
def FileSeeksWrongFalsely : Prop := fileSeeksRow.holds Tryz.pinned (OpenSpec.ofChange fileSeeksWrong)

/-- 'kinoralaw36.FileBuilt': WHATEVER THE INPUT: true; the input reads as it did. -/
def fileBuiltSpec : ChangeSpec := { name := "fileBuilt", fn := fun _ => fun
  | [d] => { results := [.lit (.bool true)], args := [d] }
  | _ => none }
def fileBuiltRow : OpenClaim := { program := "ytlddggjghmobhaagreat", sum := "f3d5474ec82bdd67027bdfcd4d7245cea4e2608ed9d331b75be12be25db9a6e6", func := "kinora/kinoralaw36.FileBuilt", spec := "fileBuilt", unfollowed := true, recurses := true, apart := false }
def FileBuiltSaid : Prop := fileBuiltRow.holds Tryz.pinned (OpenSpec.ofChange fileBuiltSpec)

/-- ITS FALSE NEIGHBOUR: 'it returns false'. Refute it at one input. -/
def fileBuiltWrong : ChangeSpec := { name := "fileBuilt", fn := fun _ => fun
  | [d] => { results := [.lit (.bool false)], args := [d] }
  | _ => none }
def FileBuiltWrongFalsely : Prop := fileBuiltRow.holds Tryz.pinned (OpenSpec.ofChange fileBuiltWrong)

/-- 'kinoralaw36.FileParts': WHATEVER THE INPUT: true; the input reads as it did. -/
def filePartsSpec : ChangeSpec := { name := "fileParts", fn := fun _ => fun
  | [d1, d2] => { results := [.lit (.bool true)], args := [d1, d2] }
  | _ => none }
def filePartsRow : OpenClaim := { program := "ytlddggjghmobhaagreat", sum := "f3d5474ec82bdd67027bdfcd4d7245cea4e2608ed9d331b75be12be25db9a6e6", func := "kinora/kinoralaw36.FileParts", spec := "fileParts", unfollowed := true, recurses := true, apart := false }
def FilePartsSaid : Prop := filePartsRow.holds Tryz.pinned (OpenSpec.ofChange filePartsSpec)

/-- ITS FALSE NEIGHBOUR: 'it returns false'. Refute it at one input. -/
def filePartsWrong : ChangeSpec := { name := "fileParts", fn := fun _ => fun
  | [d1, d2] => { results := [.lit (.bool false)], args := [d1, d2] }
  | _ => none }
def FilePartsWrongFalsely : Prop := filePartsRow.holds Tryz.pinned (OpenSpec.ofChange filePartsWrong)

/-- 'kinoralaw36.FileBack': WHATEVER THE INPUT: true; the input reads as it did. -/
def fileBackSpec : ChangeSpec := { name := "fileBack", fn := fun _ => fun
  | [d] => { results := [.lit (.bool true)], args := [d] }
  | _ => none }
def fileBackRow : OpenClaim := { program := "ytlddggjghmobhaagreat", sum := "f3d5474ec82bdd67027bdfcd4d7245cea4e2608ed9d331b75be12be25db9a6e6", func := "kinora/kinoralaw36.FileBack", spec := "fileBack", unfollowed := true, recurses := true, apart := false }
def FileBackSaid : Prop := fileBackRow.holds Tryz.pinned (OpenSpec.ofChange fileBackSpec)

/-- ITS FALSE NEIGHBOUR: 'it returns false'. Refute it at one input. -/
def fileBackWrong : ChangeSpec := { name := "fileBack", fn := fun _ => fun
  | [d] => { results := [.lit (.bool false)], args := [d] }
  | _ => none }
def FileBackWrongFalsely : Prop := fileBackRow.holds Tryz.pinned (OpenSpec.ofChange fileBackWrong)

/-- 'kinoralaw36.FileMends': WHATEVER THE INPUT: true; the input reads as it did. -/
def fileMendsSpec : ChangeSpec := { name := "fileMends", fn := fun _ => fun
  | [d1, d2, d3] => { results := [.lit (.bool true)], args := [d1, d2, d3] }
  | _ => none }
def fileMendsRow : OpenClaim := { program := "ytlddggjghmobhaagreat", sum := "f3d5474ec82bdd67027bdfcd4d7245cea4e2608ed9d331b75be12be25db9a6e6", func := "kinora/kinoralaw36.FileMends", spec := "fileMends", unfollowed := true, recurses := true, apart := false }
def FileMendsSaid : Prop := fileMendsRow.holds Tryz.pinned (OpenSpec.ofChange fileMendsSpec)

/-- ITS FALSE NEIGHBOUR: 'it returns false'. Refute it at one input. -/
def fileMendsWrong : ChangeSpec := { name := "fileMends", fn := fun _ => fun
  | [d1, d2, d3] => { results := [.lit (.bool false)], args := [d1, d2, d3] }
  | _ => none }
def FileMendsWrongFalsely : Prop := fileMendsRow.holds Tryz.pinned (OpenSpec.ofChange fileMendsWrong)

/- THE SECOND FORM. 'bulk': how many values and letters a reading holds, each counted each time it is reached (what is shared counts as often as it is met; a slice's spare places count too). A statement '..UptoSaid' is the law's where the arguments, and the package variables that the reading takes, are together of bulk at most 1048576: NARROWER than '..Said'. Prove '..Said' where nothing that the law and all that it calls make is longer than what came in: it says more and counts as full. Else prove '..UptoSaid'. A law counts once. -/
mutual
def uptoBulk {H : Type} : DataW H → Nat
  | .lit (.string bytes) => bytes.length + 1
  | .lit _ => 1
  | .nil => 1
  | .ptr d => uptoBulk d + 1
  | .slice elems spare => uptoBulkAll elems + uptoBulkAll spare + 1
  | .agg parts => uptoBulkAll parts + 1
  | .iface _ d => uptoBulk d + 1
  | .map entries => uptoBulkEntries entries + 1
  | .held _ => 1
def uptoBulkAll {H : Type} : List (DataW H) → Nat
  | [] => 0
  | d :: r => uptoBulk d + uptoBulkAll r
def uptoBulkEntries {H : Type} : List (Lit × DataW H) → Nat
  | [] => 0
  | x :: r => uptoBulkEntry x + uptoBulkEntries r
def uptoBulkEntry {H : Type} : Lit × DataW H → Nat
  | (.string bytes, d) => bytes.length + uptoBulk d + 1
  | (_, d) => uptoBulk d + 1
 end
def uptoSmall : (H : Type) → List (DataW H) → Bool := fun _ ds => decide (uptoBulkAll ds ≤ 1048576)
def OpenSpec.upto (s : _root_.Go.ChangeSpec) : _root_.Go.OpenSpec := { _root_.Go.OpenSpec.ofChange s with cond := some uptoSmall }

/-- 'kinoralaw36.FileSeeks', WHERE WHAT IT READS IS OF BULK AT MOST 1048576: true; the input reads as it did. -/
def fileSeeksUptoRow : OpenClaim := { program := "ytlddggjghmobhaagreat", sum := "f3d5474ec82bdd67027bdfcd4d7245cea4e2608ed9d331b75be12be25db9a6e6", func := "kinora/kinoralaw36.FileSeeks", spec := "fileSeeks", unfollowed := true, recurses := true, apart := false, narrowed := true }
def FileSeeksUptoSaid : Prop := fileSeeksUptoRow.holds Tryz.pinned (OpenSpec.upto fileSeeksSpec)

/-- 'kinoralaw36.FileBuilt', WHERE WHAT IT READS IS OF BULK AT MOST 1048576: true; the input reads as it did. -/
def fileBuiltUptoRow : OpenClaim := { program := "ytlddggjghmobhaagreat", sum := "f3d5474ec82bdd67027bdfcd4d7245cea4e2608ed9d331b75be12be25db9a6e6", func := "kinora/kinoralaw36.FileBuilt", spec := "fileBuilt", unfollowed := true, recurses := true, apart := false, narrowed := true }
def FileBuiltUptoSaid : Prop := fileBuiltUptoRow.holds Tryz.pinned (OpenSpec.upto fileBuiltSpec)

/-- 'kinoralaw36.FileParts', WHERE WHAT IT READS IS OF BULK AT MOST 1048576: true; the input reads as it did. -/
def filePartsUptoRow : OpenClaim := { program := "ytlddggjghmobhaagreat", sum := "f3d5474ec82bdd67027bdfcd4d7245cea4e2608ed9d331b75be12be25db9a6e6", func := "kinora/kinoralaw36.FileParts", spec := "fileParts", unfollowed := true, recurses := true, apart := false, narrowed := true }
def FilePartsUptoSaid : Prop := filePartsUptoRow.holds Tryz.pinned (OpenSpec.upto filePartsSpec)

/-- 'kinoralaw36.FileBack', WHERE WHAT IT READS IS OF BULK AT MOST 1048576: true; the input reads as it did. -/
def fileBackUptoRow : OpenClaim := { program := "ytlddggjghmobhaagreat", sum := "f3d5474ec82bdd67027bdfcd4d7245cea4e2608ed9d331b75be12be25db9a6e6", func := "kinora/kinoralaw36.FileBack", spec := "fileBack", unfollowed := true, recurses := true, apart := false, narrowed := true }
def FileBackUptoSaid : Prop := fileBackUptoRow.holds Tryz.pinned (OpenSpec.upto fileBackSpec)

/-- 'kinoralaw36.FileMends', WHERE WHAT IT READS IS OF BULK AT MOST 1048576: true; the input reads as it did. -/
def fileMendsUptoRow : OpenClaim := { program := "ytlddggjghmobhaagreat", sum := "f3d5474ec82bdd67027bdfcd4d7245cea4e2608ed9d331b75be12be25db9a6e6", func := "kinora/kinoralaw36.FileMends", spec := "fileMends", unfollowed := true, recurses := true, apart := false, narrowed := true }
def FileMendsUptoSaid : Prop := fileMendsUptoRow.holds Tryz.pinned (OpenSpec.upto fileMendsSpec)

end Rows
end Go.Proofs.YtlddggjghmobhaaGreat
