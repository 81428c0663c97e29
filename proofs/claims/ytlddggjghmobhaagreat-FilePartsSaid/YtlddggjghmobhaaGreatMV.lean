/- Part of the proof: the row's closed facts. Conditions: none. -/
import Derived.Test.YtlddggjghmobhaaGreatRows
import Derived.WalkKit
import Derived.ProofKit
import Derived.OpenShut
import Derived.Handed
import Derived.KernelRfl
import Derived.Test.YtlddggjghmobhaaGreatMU
noncomputable section
set_option linter.unusedVariables false
namespace Go.Proofs.YtlddggjghmobhaaGreat.fileParts
open Go.ChangeShapes Go.WideShapes Go.ChangeAt Go.RowKit
theorem j26:J fun P f fn s c=>(c.lifted==P.liftsFinal):=by unfold J;kernel_rfl
theorem j27:J fun P f fn s c=>(P.make==some c.make):=by unfold J;kernel_rfl
theorem j29:J fun P f fn s c=>(c.pinned==c.pinnedBy):=by unfold J;kernel_rfl
theorem j30:J fun P f fn s c=>(c.veiled==(fn.params.toList++s.plain.varTypes P++fn.resultTypes.toList).any (P.veiledRec ·)):=by unfold J;kernel_rfl
theorem j31:J fun P f fn s c=>c.veiledFits P fn.params.toList (fn.params.toList++s.plain.varTypes P++fn.resultTypes.toList):=by unfold J;kernel_rfl
theorem pn:Tryz.prog.funcNamed Rows.filePartsRow.func=some 5:=by kernel_rfl
end Go.Proofs.YtlddggjghmobhaaGreat.fileParts
