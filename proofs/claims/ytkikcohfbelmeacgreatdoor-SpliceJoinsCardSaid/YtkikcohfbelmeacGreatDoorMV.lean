/- Closed facts. Conditions: none. -/
import Derived.Test.YtkikcohfbelmeacGreatDoorMU
set_option linter.unusedVariables false
namespace Go.Proofs.YtkikcohfbelmeacGreatDoor.spliceJoins
open Go.ChangeShapes Go.WideShapes Go.ChangeAt Go.RowKit
theorem j26:J fun P f fn s c=>(c.lifted==P.liftsFinal):=by unfold J;kernel_rfl
theorem j27:J fun P f fn s c=>(P.make==some c.make):=by unfold J;kernel_rfl
theorem j29:J fun P f fn s c=>(c.pinned==c.pinnedBy):=by unfold J;kernel_rfl
theorem j30:J fun P f fn s c=>(c.veiled==(fn.params.toList++s.plain.varTypes P++fn.resultTypes.toList).any (P.veiledRec ·)):=by unfold J;kernel_rfl
theorem j31:J fun P f fn s c=>c.veiledFits P fn.params.toList (fn.params.toList++s.plain.varTypes P++fn.resultTypes.toList):=by unfold J;kernel_rfl
theorem pn:Tryz.prog.funcNamed Rows.spliceJoinsRow.func=some 3:=by kernel_rfl
theorem pw:Rows.spliceJoinsRow.wfByText (OpenSpec.ofChange Rows.spliceJoinsSpec)=true:=by kernel_rfl
theorem pm : Tryz.pinned.checked.prog.mainIs = some (true, "71c7f671e7f407b38f135708f168015e41e543a0bd534d9637b3c89614a394b5".toList) := by kernel_rfl
theorem pl:false=Tryz.pinned.checked.prog.looks []:=by kernel_rfl
theorem pg:false=Rows.spliceJoinsRow.goesBy Tryz.pinned.checked.prog:=by kernel_rfl
end Go.Proofs.YtkikcohfbelmeacGreatDoor.spliceJoins
