/- Part of the proof: the row's closed facts. Conditions: none. -/
import Derived.Test.YtjoohiokfkdfpabGreatDoorRows
import Derived.Test.YtjoohiokfkdfpabGreatDoorCards
import Derived.Test.YtjoohiokfkdfpabGreatDoorTie
import Derived.WalkKit
import Derived.ProofKit
import Derived.OpenShut
import Derived.Handed
import Derived.SevenTiedAt
import Derived.KernelRfl
import Derived.Test.YtjoohiokfkdfpabGreatDoorMU
noncomputable section
set_option linter.unusedVariables false
namespace Go.Proofs.YtjoohiokfkdfpabGreatDoor.trackMends
open Go.ChangeShapes Go.WideShapes Go.ChangeAt Go.RowKit
theorem j26:J fun P f fn s c=>(c.lifted==P.liftsFinal):=by unfold J;kernel_rfl
theorem j27:J fun P f fn s c=>(P.make==some c.make):=by unfold J;kernel_rfl
theorem j29:J fun P f fn s c=>(c.pinned==c.pinnedBy):=by unfold J;kernel_rfl
theorem j30:J fun P f fn s c=>(c.veiled==(fn.params.toList++s.plain.varTypes P++fn.resultTypes.toList).any (P.veiledRec ·)):=by unfold J;kernel_rfl
theorem j31:J fun P f fn s c=>c.veiledFits P fn.params.toList (fn.params.toList++s.plain.varTypes P++fn.resultTypes.toList):=by unfold J;kernel_rfl
theorem pn:Tryz.prog.funcNamed Rows.trackMendsRow.func=some 6:=by kernel_rfl
theorem pw:Rows.trackMendsRow.wfByText (OpenSpec.ofChange Rows.trackMendsSpec)=true:=by kernel_rfl
theorem pm : Tryz.pinned.checked.prog.mainIs = some (true, "f2d965d930c9e7a7ddb504c711e2b28f1908c769e24b502d563a71facff64e23".toList) := by kernel_rfl
theorem pl:false=Tryz.pinned.checked.prog.looks []:=by kernel_rfl
theorem pg:false=Rows.trackMendsRow.goesBy Tryz.pinned.checked.prog:=by kernel_rfl
end Go.Proofs.YtjoohiokfkdfpabGreatDoor.trackMends
