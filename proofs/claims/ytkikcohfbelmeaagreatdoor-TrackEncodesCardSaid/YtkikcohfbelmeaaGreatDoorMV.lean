/- Closed facts. Conditions: none. -/
import Derived.Test.YtkikcohfbelmeaaGreatDoorMU
set_option linter.unusedVariables false
namespace Go.Proofs.YtkikcohfbelmeaaGreatDoor.trackEncodes
open Go.ChangeShapes Go.WideShapes Go.ChangeAt Go.RowKit
theorem j26:J fun P f fn s c=>(c.lifted==P.liftsFinal):=by unfold J;kernel_rfl
theorem j27:J fun P f fn s c=>(P.make==some c.make):=by unfold J;kernel_rfl
theorem j29:J fun P f fn s c=>(c.pinned==c.pinnedBy):=by unfold J;kernel_rfl
theorem j30:J fun P f fn s c=>(c.veiled==(fn.params.toList++s.plain.varTypes P++fn.resultTypes.toList).any (P.veiledRec ·)):=by unfold J;kernel_rfl
theorem j31:J fun P f fn s c=>c.veiledFits P fn.params.toList (fn.params.toList++s.plain.varTypes P++fn.resultTypes.toList):=by unfold J;kernel_rfl
theorem pn:Tryz.prog.funcNamed Rows.trackEncodesRow.func=some 3:=by kernel_rfl
theorem pw:Rows.trackEncodesRow.wfByText (OpenSpec.ofChange Rows.trackEncodesSpec)=true:=by kernel_rfl
theorem pm : Tryz.pinned.checked.prog.mainIs = some (true, "0950305ed7e085f5b5dcbb8ffa0f19012a47c93155e2b13c3b6f5f11fb9a7261".toList) := by kernel_rfl
theorem pl:false=Tryz.pinned.checked.prog.looks []:=by kernel_rfl
theorem pg:false=Rows.trackEncodesRow.goesBy Tryz.pinned.checked.prog:=by kernel_rfl
end Go.Proofs.YtkikcohfbelmeaaGreatDoor.trackEncodes
