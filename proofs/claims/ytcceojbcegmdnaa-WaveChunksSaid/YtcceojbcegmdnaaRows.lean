/-
  No cell of these rows narrows 'for every input' (looked for: loops, veiled, ifaces, maps, wideKeys, modest, calm, conditions, laid).
  DERIVED. THE GIVEN ROWS OF THIS SEAT. 6 by the template 'for every input the law returns true; each argument reads behind the call as it read before'; 0 by the template 'total and deterministic' (their statements: YtcceojbcegmdnaaTotals.lean).
  GIVEN WITH THE SEED: the statements are not yours to turn. If you find one false, say at which input.
  Laid BY PROGRAM, IN A SANDBOX (cutbox-rows.mjs): the forced cells as the released guide's own fill.sh prints them over the translation 968b67ea12b84c88… (all of the seat's roots in one cut). By AI agents, Wed Nov 11 2026. No macro, syntax, notation, axiom, sorry.
-/
import Derived.Test.YtcceojbcegmdnaaChecked
import GoSem.Claim
import GoSem.ClaimJoined
import GoSem.ClaimMapViews
import Derived.JoinedTies
import Derived.KernelRfl
namespace Go.Proofs.Ytcceojbcegmdnaa
/- THE CELL 'sum', in the pinned program and in every row, IS THE sha256 OF THE DUMP (.gsa) THAT YtcceojbcegmdnaaProg.lean LOADS. Nothing in Lean hashes anything: it is a label: what it is worth is what the hold of that sum in a sandbox is worth. -/
noncomputable def Try.pinned : Pinned := { name := "ytcceojbcegmdnaa", sum := "968b67ea12b84c88286b2d4a43396eb39e3156d696aeed926650bcf4143c3e58", checked := Try.checked }
namespace Rows
def none {H : Type} : Left H := { results := [], args := [] }

/-- 'kinoralaw18.WavePrints': WHATEVER THE INPUT: true; the input reads as it did. -/
def wavePrintsSpec : ChangeSpec := { name := "wavePrints", fn := fun _ => fun
  | [d1, d2] => { results := [.lit (.bool true)], args := [d1, d2] }
  | _ => none }
def wavePrintsRow : OpenClaim := { program := "ytcceojbcegmdnaa", sum := "968b67ea12b84c88286b2d4a43396eb39e3156d696aeed926650bcf4143c3e58", func := "kinora/kinoralaw18.WavePrints", spec := "wavePrints", apart := false }
def WavePrintsSaid : Prop := wavePrintsRow.holds Try.pinned (OpenSpec.ofChange wavePrintsSpec)

/-- ITS FALSE NEIGHBOUR: 'it returns false'. Refute it at one input. -/
def wavePrintsWrong : ChangeSpec := { name := "wavePrints", fn := fun _ => fun
  | [d1, d2] => { results := [.lit (.bool false)], args := [d1, d2] }
  | _ => none }
def WavePrintsWrongFalsely : Prop := wavePrintsRow.holds Try.pinned (OpenSpec.ofChange wavePrintsWrong)

/-- 'kinoralaw18.WaveParses': WHATEVER THE INPUT: true; the input reads as it did. -/
def waveParsesSpec : ChangeSpec := { name := "waveParses", fn := fun _ => fun
  | [d] => { results := [.lit (.bool true)], args := [d] }
  | _ => none }
def waveParsesRow : OpenClaim := { program := "ytcceojbcegmdnaa", sum := "968b67ea12b84c88286b2d4a43396eb39e3156d696aeed926650bcf4143c3e58", func := "kinora/kinoralaw18.WaveParses", spec := "waveParses", apart := false }
def WaveParsesSaid : Prop := waveParsesRow.holds Try.pinned (OpenSpec.ofChange waveParsesSpec)

/-- ITS FALSE NEIGHBOUR: 'it returns false'. Refute it at one input. -/
def waveParsesWrong : ChangeSpec := { name := "waveParses", fn := fun _ => fun
  | [d] => { results := [.lit (.bool false)], args := [d] }
  | _ => none }
def WaveParsesWrongFalsely : Prop := waveParsesRow.holds Try.pinned (OpenSpec.ofChange waveParsesWrong)

/-- 'kinoralaw18.WaveBack': WHATEVER THE INPUT: true; the input reads as it did. -/
def waveBackSpec : ChangeSpec := { name := "waveBack", fn := fun _ => fun
  | [d1, d2, d3] => { results := [.lit (.bool true)], args := [d1, d2, d3] }
  | _ => none }
def waveBackRow : OpenClaim := { program := "ytcceojbcegmdnaa", sum := "968b67ea12b84c88286b2d4a43396eb39e3156d696aeed926650bcf4143c3e58", func := "kinora/kinoralaw18.WaveBack", spec := "waveBack", apart := false }
def WaveBackSaid : Prop := waveBackRow.holds Try.pinned (OpenSpec.ofChange waveBackSpec)

/-- ITS FALSE NEIGHBOUR: 'it returns false'. Refute it at one input. -/
def waveBackWrong : ChangeSpec := { name := "waveBack", fn := fun _ => fun
  | [d1, d2, d3] => { results := [.lit (.bool false)], args := [d1, d2, d3] }
  | _ => none }
def WaveBackWrongFalsely : Prop := waveBackRow.holds Try.pinned (OpenSpec.ofChange waveBackWrong)

/-- 'kinoralaw18.WaveChunks': WHATEVER THE INPUT: true; the input reads as it did. -/
def waveChunksSpec : ChangeSpec := { name := "waveChunks", fn := fun _ => fun
  | [d1, d2, d3, d4, d5] => { results := [.lit (.bool true)], args := [d1, d2, d3, d4, d5] }
  | _ => none }
def waveChunksRow : OpenClaim := { program := "ytcceojbcegmdnaa", sum := "968b67ea12b84c88286b2d4a43396eb39e3156d696aeed926650bcf4143c3e58", func := "kinora/kinoralaw18.WaveChunks", spec := "waveChunks", apart := false }
def WaveChunksSaid : Prop := waveChunksRow.holds Try.pinned (OpenSpec.ofChange waveChunksSpec)

/-- ITS FALSE NEIGHBOUR: 'it returns false'. Refute it at one input. -/
def waveChunksWrong : ChangeSpec := { name := "waveChunks", fn := fun _ => fun
  | [d1, d2, d3, d4, d5] => { results := [.lit (.bool false)], args := [d1, d2, d3, d4, d5] }
  | _ => none }
def WaveChunksWrongFalsely : Prop := waveChunksRow.holds Try.pinned (OpenSpec.ofChange waveChunksWrong)

/-- 'kinoralaw18.WaveTwice': WHATEVER THE INPUT: true; the input reads as it did. -/
def waveTwiceSpec : ChangeSpec := { name := "waveTwice", fn := fun _ => fun
  | [d1, d2, d3] => { results := [.lit (.bool true)], args := [d1, d2, d3] }
  | _ => none }
def waveTwiceRow : OpenClaim := { program := "ytcceojbcegmdnaa", sum := "968b67ea12b84c88286b2d4a43396eb39e3156d696aeed926650bcf4143c3e58", func := "kinora/kinoralaw18.WaveTwice", spec := "waveTwice", apart := false }
def WaveTwiceSaid : Prop := waveTwiceRow.holds Try.pinned (OpenSpec.ofChange waveTwiceSpec)

/-- ITS FALSE NEIGHBOUR: 'it returns false'. Refute it at one input. -/
def waveTwiceWrong : ChangeSpec := { name := "waveTwice", fn := fun _ => fun
  | [d1, d2, d3] => { results := [.lit (.bool false)], args := [d1, d2, d3] }
  | _ => none }
def WaveTwiceWrongFalsely : Prop := waveTwiceRow.holds Try.pinned (OpenSpec.ofChange waveTwiceWrong)

/-- 'kinoralaw18.WaveSizes': WHATEVER THE INPUT: true; the input reads as it did. -/
def waveSizesSpec : ChangeSpec := { name := "waveSizes", fn := fun _ => fun
  | [d1, d2] => { results := [.lit (.bool true)], args := [d1, d2] }
  | _ => none }
def waveSizesRow : OpenClaim := { program := "ytcceojbcegmdnaa", sum := "968b67ea12b84c88286b2d4a43396eb39e3156d696aeed926650bcf4143c3e58", func := "kinora/kinoralaw18.WaveSizes", spec := "waveSizes", apart := false }
def WaveSizesSaid : Prop := waveSizesRow.holds Try.pinned (OpenSpec.ofChange waveSizesSpec)

/-- ITS FALSE NEIGHBOUR: 'it returns false'. Refute it at one input. -/
def waveSizesWrong : ChangeSpec := { name := "waveSizes", fn := fun _ => fun
  | [d1, d2] => { results := [.lit (.bool false)], args := [d1, d2] }
  | _ => none }
def WaveSizesWrongFalsely : Prop := waveSizesRow.holds Try.pinned (OpenSpec.ofChange waveSizesWrong)

/- THE SECOND FORM. 'bulk': how many values and letters a reading holds, each counted each time it is reached (what is shared counts as often as it is met; a slice's spare places count too). A statement '..UptoSaid' is the law's where the arguments, and the package variables that the reading takes, are together of bulk at most 1048576: NARROWER than '..Said'. Prove '..Said' where nothing that the law and all that it calls make is longer than what came in: it says more and counts as full. Else prove '..UptoSaid'. A law counts once. -/
mutual
def uptoBulk {H : Type} : DataW H → Nat
  | .lit (.string bytes) => bytes.length + 1
  | .lit _ => 1
  | .nil => 1
  | .ptr d => uptoBulk d + 1
  | .slice elems spare => uptoBulkAll elems + uptoBulkAll spare + 1
  | .agg parts => uptoBulkAll parts + 1
  | .iface _ d => uptoBulk d + 1
  | .map entries => uptoBulkEntries entries + 1
  | .held _ => 1
def uptoBulkAll {H : Type} : List (DataW H) → Nat
  | [] => 0
  | d :: r => uptoBulk d + uptoBulkAll r
def uptoBulkEntries {H : Type} : List (Lit × DataW H) → Nat
  | [] => 0
  | x :: r => uptoBulkEntry x + uptoBulkEntries r
def uptoBulkEntry {H : Type} : Lit × DataW H → Nat
  | (.string bytes, d) => bytes.length + uptoBulk d + 1
  | (_, d) => uptoBulk d + 1
 end
def uptoSmall : (H : Type) → List (DataW H) → Bool := fun _ ds => decide (uptoBulkAll ds ≤ 1048576)
def OpenSpec.upto (s : _root_.Go.ChangeSpec) : _root_.Go.OpenSpec := { _root_.Go.OpenSpec.ofChange s with cond := some uptoSmall }

/-- 'kinoralaw18.WavePrints', WHERE WHAT IT READS IS OF BULK AT MOST 1048576: true; the input reads as it did. -/
def wavePrintsUptoRow : OpenClaim := { program := "ytcceojbcegmdnaa", sum := "968b67ea12b84c88286b2d4a43396eb39e3156d696aeed926650bcf4143c3e58", func := "kinora/kinoralaw18.WavePrints", spec := "wavePrints", apart := false, narrowed := true }
def WavePrintsUptoSaid : Prop := wavePrintsUptoRow.holds Try.pinned (OpenSpec.upto wavePrintsSpec)

/-- 'kinoralaw18.WaveParses', WHERE WHAT IT READS IS OF BULK AT MOST 1048576: true; the input reads as it did. -/
def waveParsesUptoRow : OpenClaim := { program := "ytcceojbcegmdnaa", sum := "968b67ea12b84c88286b2d4a43396eb39e3156d696aeed926650bcf4143c3e58", func := "kinora/kinoralaw18.WaveParses", spec := "waveParses", apart := false, narrowed := true }
def WaveParsesUptoSaid : Prop := waveParsesUptoRow.holds Try.pinned (OpenSpec.upto waveParsesSpec)

/-- 'kinoralaw18.WaveBack', WHERE WHAT IT READS IS OF BULK AT MOST 1048576: true; the input reads as it did. -/
def waveBackUptoRow : OpenClaim := { program := "ytcceojbcegmdnaa", sum := "968b67ea12b84c88286b2d4a43396eb39e3156d696aeed926650bcf4143c3e58", func := "kinora/kinoralaw18.WaveBack", spec := "waveBack", apart := false, narrowed := true }
def WaveBackUptoSaid : Prop := waveBackUptoRow.holds Try.pinned (OpenSpec.upto waveBackSpec)

/-- 'kinoralaw18.WaveChunks', WHERE WHAT IT READS IS OF BULK AT MOST 1048576: true; the input reads as it did. -/
def waveChunksUptoRow : OpenClaim := { program := "ytcceojbcegmdnaa", sum := "968b67ea12b84c88286b2d4a43396eb39e3156d696aeed926650bcf4143c3e58", func := "kinora/kinoralaw18.WaveChunks", spec := "waveChunks", apart := false, narrowed := true }
def WaveChunksUptoSaid : Prop := waveChunksUptoRow.holds Try.pinned (OpenSpec.upto waveChunksSpec)

/-- 'kinoralaw18.WaveTwice', WHERE WHAT IT READS IS OF BULK AT MOST 1048576: true; the input reads as it did. -/
def waveTwiceUptoRow : OpenClaim := { program := "ytcceojbcegmdnaa", sum := "968b67ea12b84c88286b2d4a43396eb39e3156d696aeed926650bcf4143c3e58", func := "kinora/kinoralaw18.WaveTwice", spec := "waveTwice", apart := false, narrowed := true }
def WaveTwiceUptoSaid : Prop := waveTwiceUptoRow.holds Try.pinned (OpenSpec.upto waveTwiceSpec)

/-- 'kinoralaw18.WaveSizes', WHERE WHAT IT READS IS OF BULK AT MOST 1048576: true; the input reads as it did. -/
def waveSizesUptoRow : OpenClaim := { program := "ytcceojbcegmdnaa", sum := "968b67ea12b84c88286b2d4a43396eb39e3156d696aeed926650bcf4143c3e58", func := "kinora/kinoralaw18.WaveSizes", spec := "waveSizes", apart := false, narrowed := true }
def WaveSizesUptoSaid : Prop := waveSizesUptoRow.holds Try.pinned (OpenSpec.upto waveSizesSpec)

end Rows
end Go.Proofs.Ytcceojbcegmdnaa
