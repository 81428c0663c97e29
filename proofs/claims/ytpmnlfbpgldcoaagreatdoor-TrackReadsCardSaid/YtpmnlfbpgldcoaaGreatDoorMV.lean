/- Part of the proof: the row's closed facts. Conditions: none. -/
import Derived.Test.YtpmnlfbpgldcoaaGreatDoorRows
import Derived.Test.YtpmnlfbpgldcoaaGreatDoorCards
import Derived.Test.YtpmnlfbpgldcoaaGreatDoorTie
import Derived.WalkKit
import Derived.ProofKit
import Derived.OpenShut
import Derived.Handed
import Derived.SevenTiedAt
import Derived.KernelRfl
import Derived.Test.YtpmnlfbpgldcoaaGreatDoorMU
noncomputable section
set_option linter.unusedVariables false
namespace Go.Proofs.YtpmnlfbpgldcoaaGreatDoor.trackReads
open Go.ChangeShapes Go.WideShapes Go.ChangeAt Go.RowKit
theorem j26:J fun P f fn s c=>(c.lifted==P.liftsFinal):=by unfold J;kernel_rfl
theorem j27:J fun P f fn s c=>(P.make==some c.make):=by unfold J;kernel_rfl
theorem j29:J fun P f fn s c=>(c.pinned==c.pinnedBy):=by unfold J;kernel_rfl
theorem j30:J fun P f fn s c=>(c.veiled==(fn.params.toList++s.plain.varTypes P++fn.resultTypes.toList).any (P.veiledRec ·)):=by unfold J;kernel_rfl
theorem j31:J fun P f fn s c=>c.veiledFits P fn.params.toList (fn.params.toList++s.plain.varTypes P++fn.resultTypes.toList):=by unfold J;kernel_rfl
theorem pn:Tryz.prog.funcNamed Rows.trackReadsRow.func=some 3:=by kernel_rfl
theorem pw:Rows.trackReadsRow.wfByText (OpenSpec.ofChange Rows.trackReadsSpec)=true:=by kernel_rfl
theorem pm : Tryz.pinned.checked.prog.mainIs = some (true, "e995ad81562105a7b9148c0179458d56f6de9c88f2df986e3fb9d2cf05b7a4f0".toList) := by kernel_rfl
theorem pl:false=Tryz.pinned.checked.prog.looks []:=by kernel_rfl
theorem pg:false=Rows.trackReadsRow.goesBy Tryz.pinned.checked.prog:=by kernel_rfl
end Go.Proofs.YtpmnlfbpgldcoaaGreatDoor.trackReads
