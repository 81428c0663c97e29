/- Closed facts. Conditions: none. -/
import Derived.Test.YtkikcohfbelmeacGreatDoorMT
set_option linter.unusedVariables false
namespace Go.Proofs.YtkikcohfbelmeacGreatDoor.spliceJoins
open Go.ChangeShapes Go.WideShapes Go.ChangeAt Go.RowKit
theorem j10:J fun P f fn s c=>(c.unfollowed==P.unfollowed f):=by unfold J;kernel_rfl
theorem j11:J fun P f fn s c=>(c.recurses==P.recurses f):=by unfold J;kernel_rfl
theorem j12:J fun P f fn s c=>(c.named==P.varsNamed f):=by unfold J;kernel_rfl
theorem j13:J fun P f fn s c=>(c.maps==(fn.params.toList++s.plain.varTypes P).any (P.mapsRec ·)):=by unfold J;kernel_rfl
theorem j14:J fun P f fn s c=>(c.ifaces==(fn.params.toList++s.plain.varTypes P).any (P.ifacesRec ·)):=by unfold J;kernel_rfl
theorem j15:J fun P f fn s c=>(c.mapsOut==P.mapsAmong fn.resultTypes.toList):=by unfold J;kernel_rfl
theorem j16:J fun P f fn s c=>(c.loops==(fn.params.toList++s.plain.varTypes P).any (P.loopsFrom ·)):=by unfold J;kernel_rfl
theorem j17:J fun P f fn s c=>(c.wideKeys==(fn.params.toList++s.plain.varTypes P++fn.resultTypes.toList).any (P.wideKeysFrom ·)):=by unfold J;kernel_rfl
theorem j18:J fun P f fn s c=>s.vars.all (P.varReadable ·):=by unfold J;kernel_rfl
theorem j19:J fun P f fn s c=>fn.resultTypes.all (fun t=>P.readableRec t&&decide (t<P.types.size)):=by unfold J;kernel_rfl
theorem j20:J fun P f fn s c=>(c.ifacesOut==fn.resultTypes.toList.any (P.ifacesRec ·)):=by unfold J;kernel_rfl
theorem j21:J fun P f fn s c=>(c.loopsOut==fn.resultTypes.toList.any (P.loopsFrom ·)):=by unfold J;kernel_rfl
theorem j22:J fun P f fn s c=>(c.plainKeys==P.plainKeys):=by unfold J;kernel_rfl
theorem j23:J fun P f fn s c=>c.shortTexts.isNone:=by unfold J;kernel_rfl
theorem j24:J fun P f fn s c=>P.stopsHeard:=by unfold J;kernel_rfl
theorem j25:J fun P f fn s c=>P.mayEnter:=by unfold J;kernel_rfl
end Go.Proofs.YtkikcohfbelmeacGreatDoor.spliceJoins
