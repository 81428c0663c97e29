/- Part of the proof: the row's closed facts. Conditions: none. -/
import Derived.Test.YtbadoabamddpfaaGreatDoorRows
import Derived.Test.YtbadoabamddpfaaGreatDoorCards
import Derived.Test.YtbadoabamddpfaaGreatDoorTie
import Derived.WalkKit
import Derived.ProofKit
import Derived.OpenShut
import Derived.Handed
import Derived.SevenTiedAt
import Derived.KernelRfl
import Derived.Test.YtbadoabamddpfaaGreatDoorMU
noncomputable section
set_option linter.unusedVariables false
namespace Go.Proofs.YtbadoabamddpfaaGreatDoor.trackTells
open Go.ChangeShapes Go.WideShapes Go.ChangeAt Go.RowKit
theorem j26:J fun P f fn s c=>(c.lifted==P.liftsFinal):=by unfold J;kernel_rfl
theorem j27:J fun P f fn s c=>(P.make==some c.make):=by unfold J;kernel_rfl
theorem j29:J fun P f fn s c=>(c.pinned==c.pinnedBy):=by unfold J;kernel_rfl
theorem j30:J fun P f fn s c=>(c.veiled==(fn.params.toList++s.plain.varTypes P++fn.resultTypes.toList).any (P.veiledRec ·)):=by unfold J;kernel_rfl
theorem j31:J fun P f fn s c=>c.veiledFits P fn.params.toList (fn.params.toList++s.plain.varTypes P++fn.resultTypes.toList):=by unfold J;kernel_rfl
theorem pn:Tryz.prog.funcNamed Rows.trackTellsRow.func=some 6:=by kernel_rfl
theorem pw:Rows.trackTellsRow.wfByText (OpenSpec.ofChange Rows.trackTellsSpec)=true:=by kernel_rfl
theorem pm : Tryz.pinned.checked.prog.mainIs = some (true, "f58e910a06a1501eb8767231f9fb86f292a702a9c05d864ab6d18b8654061ddd".toList) := by kernel_rfl
theorem pl:false=Tryz.pinned.checked.prog.looks []:=by kernel_rfl
theorem pg:false=Rows.trackTellsRow.goesBy Tryz.pinned.checked.prog:=by kernel_rfl
end Go.Proofs.YtbadoabamddpfaaGreatDoor.trackTells
