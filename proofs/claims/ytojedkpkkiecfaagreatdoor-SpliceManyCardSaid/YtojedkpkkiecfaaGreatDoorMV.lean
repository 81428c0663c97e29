/- Part of the proof: the row's closed facts. Conditions: none. -/
import Derived.Test.YtojedkpkkiecfaaGreatDoorRows
import Derived.Test.YtojedkpkkiecfaaGreatDoorCards
import Derived.Test.YtojedkpkkiecfaaGreatDoorTie
import Derived.WalkKit
import Derived.ProofKit
import Derived.OpenShut
import Derived.Handed
import Derived.SevenTiedAt
import Derived.KernelRfl
import Derived.Test.YtojedkpkkiecfaaGreatDoorMU
noncomputable section
set_option linter.unusedVariables false
namespace Go.Proofs.YtojedkpkkiecfaaGreatDoor.spliceMany
open Go.ChangeShapes Go.WideShapes Go.ChangeAt Go.RowKit
theorem j26:J fun P f fn s c=>(c.lifted==P.liftsFinal):=by unfold J;kernel_rfl
theorem j27:J fun P f fn s c=>(P.make==some c.make):=by unfold J;kernel_rfl
theorem j29:J fun P f fn s c=>(c.pinned==c.pinnedBy):=by unfold J;kernel_rfl
theorem j30:J fun P f fn s c=>(c.veiled==(fn.params.toList++s.plain.varTypes P++fn.resultTypes.toList).any (P.veiledRec ·)):=by unfold J;kernel_rfl
theorem j31:J fun P f fn s c=>c.veiledFits P fn.params.toList (fn.params.toList++s.plain.varTypes P++fn.resultTypes.toList):=by unfold J;kernel_rfl
theorem pn:Tryz.prog.funcNamed Rows.spliceManyRow.func=some 8:=by kernel_rfl
theorem pw:Rows.spliceManyRow.wfByText (OpenSpec.ofChange Rows.spliceManySpec)=true:=by kernel_rfl
theorem pm : Tryz.pinned.checked.prog.mainIs = some (true, "fa530336ce16edd43212b86a0bd67d274e18de52651cbc783f129ce35eb87c66".toList) := by kernel_rfl
theorem pl:false=Tryz.pinned.checked.prog.looks []:=by kernel_rfl
theorem pg:false=Rows.spliceManyRow.goesBy Tryz.pinned.checked.prog:=by kernel_rfl
end Go.Proofs.YtojedkpkkiecfaaGreatDoor.spliceMany
