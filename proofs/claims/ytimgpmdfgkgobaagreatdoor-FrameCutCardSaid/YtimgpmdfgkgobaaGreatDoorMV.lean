/- Part of the proof: the row's closed facts. Conditions: none. -/
import Derived.Test.YtimgpmdfgkgobaaGreatDoorRows
import Derived.Test.YtimgpmdfgkgobaaGreatDoorCards
import Derived.Test.YtimgpmdfgkgobaaGreatDoorTie
import Derived.WalkKit
import Derived.ProofKit
import Derived.OpenShut
import Derived.Handed
import Derived.SevenTiedAt
import Derived.KernelRfl
import Derived.Test.YtimgpmdfgkgobaaGreatDoorMU
noncomputable section
set_option linter.unusedVariables false
namespace Go.Proofs.YtimgpmdfgkgobaaGreatDoor.frameCut
open Go.ChangeShapes Go.WideShapes Go.ChangeAt Go.RowKit
theorem j26:J fun P f fn s c=>(c.lifted==P.liftsFinal):=by unfold J;kernel_rfl
theorem j27:J fun P f fn s c=>(P.make==some c.make):=by unfold J;kernel_rfl
theorem j29:J fun P f fn s c=>(c.pinned==c.pinnedBy):=by unfold J;kernel_rfl
theorem j30:J fun P f fn s c=>(c.veiled==(fn.params.toList++s.plain.varTypes P++fn.resultTypes.toList).any (P.veiledRec ·)):=by unfold J;kernel_rfl
theorem j31:J fun P f fn s c=>c.veiledFits P fn.params.toList (fn.params.toList++s.plain.varTypes P++fn.resultTypes.toList):=by unfold J;kernel_rfl
theorem pn:Tryz.prog.funcNamed Rows.frameCutRow.func=some 9:=by kernel_rfl
theorem pw:Rows.frameCutRow.wfByText (OpenSpec.ofChange Rows.frameCutSpec)=true:=by kernel_rfl
theorem pm : Tryz.pinned.checked.prog.mainIs = some (true, "43a63db85aceb10d325ddd1a803cfe9a208ec57f4ac4d131bcd74fa7f6fd293e".toList) := by kernel_rfl
theorem pl:false=Tryz.pinned.checked.prog.looks []:=by kernel_rfl
theorem pg:false=Rows.frameCutRow.goesBy Tryz.pinned.checked.prog:=by kernel_rfl
end Go.Proofs.YtimgpmdfgkgobaaGreatDoor.frameCut
