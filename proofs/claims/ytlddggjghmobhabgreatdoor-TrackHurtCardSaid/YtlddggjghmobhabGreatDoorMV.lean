/- Part of the proof: the row's closed facts. Conditions: none. -/
import Derived.Test.YtlddggjghmobhabGreatDoorRows
import Derived.Test.YtlddggjghmobhabGreatDoorCards
import Derived.Test.YtlddggjghmobhabGreatDoorTie
import Derived.WalkKit
import Derived.ProofKit
import Derived.OpenShut
import Derived.Handed
import Derived.SevenTiedAt
import Derived.KernelRfl
import Derived.Test.YtlddggjghmobhabGreatDoorMU
noncomputable section
set_option linter.unusedVariables false
namespace Go.Proofs.YtlddggjghmobhabGreatDoor.trackHurt
open Go.ChangeShapes Go.WideShapes Go.ChangeAt Go.RowKit
theorem j26:J fun P f fn s c=>(c.lifted==P.liftsFinal):=by unfold J;kernel_rfl
theorem j27:J fun P f fn s c=>(P.make==some c.make):=by unfold J;kernel_rfl
theorem j29:J fun P f fn s c=>(c.pinned==c.pinnedBy):=by unfold J;kernel_rfl
theorem j30:J fun P f fn s c=>(c.veiled==(fn.params.toList++s.plain.varTypes P++fn.resultTypes.toList).any (P.veiledRec ·)):=by unfold J;kernel_rfl
theorem j31:J fun P f fn s c=>c.veiledFits P fn.params.toList (fn.params.toList++s.plain.varTypes P++fn.resultTypes.toList):=by unfold J;kernel_rfl
theorem pn:Tryz.prog.funcNamed Rows.trackHurtRow.func=some 3:=by kernel_rfl
theorem pw:Rows.trackHurtRow.wfByText (OpenSpec.ofChange Rows.trackHurtSpec)=true:=by kernel_rfl
theorem pm : Tryz.pinned.checked.prog.mainIs = some (true, "d69474b5906d1532afedbfa3ca3f5fd96c40b913f080cd6967164314683b4bce".toList) := by kernel_rfl
theorem pl:false=Tryz.pinned.checked.prog.looks []:=by kernel_rfl
theorem pg:false=Rows.trackHurtRow.goesBy Tryz.pinned.checked.prog:=by kernel_rfl
end Go.Proofs.YtlddggjghmobhabGreatDoor.trackHurt
