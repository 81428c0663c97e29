/- Closed facts. Conditions: none. -/
import Derived.Test.YtkikcohfbelmeacGreatDoorRows
import Derived.Test.YtkikcohfbelmeacGreatDoorCards
import Derived.Test.YtkikcohfbelmeacGreatDoorTie
import Derived.WalkKit
import Derived.ProofKit
import Derived.OpenShut
import Derived.Handed
import Derived.SevenTiedAt
import Derived.KernelRfl
set_option linter.unusedVariables false
namespace Go.Proofs.YtkikcohfbelmeacGreatDoor.spliceJoins
open Go.ChangeShapes Go.WideShapes Go.ChangeAt Go.RowKit
theorem own:ownKnob Tryz.prog.godebug=none:=by kernel_rfl
theorem laidOut:laidOutB Tryz.prog=true:=by kernel_rfl
def J (X:Program->FuncId->Func->ChangeSpec->OpenClaim->Bool):Prop:=X Tryz.prog 3 Tryz.f3 Rows.spliceJoinsSpec Rows.spliceJoinsRow=true
theorem j0:J fun P f fn s c=>c.wf (OpenSpec.ofChange s):=by unfold J;kernel_rfl
theorem j1:J fun P f fn s c=>laidOutB P:=by exact laidOut
theorem j2:J fun P f fn s c=>mapsRowed P:=by unfold J;kernel_rfl
theorem j3:J fun P f fn s c=>fn.params.all (P.readableRec ·):=by unfold J;kernel_rfl
theorem j4:J fun P f fn s c=>namedTie P c.named s.vars:=by unfold J;kernel_rfl
theorem j5:J fun P f fn s c=>(c.stops==[]):=by unfold J;kernel_rfl
theorem j6:J fun P f fn s c=>(P.stops==[]):=by unfold J;kernel_rfl
theorem j7:J fun P f fn s c=>(c.knobs==[]):=by unfold J;kernel_rfl
theorem j8:J fun P f fn s c=>(P.stopKnobs==[]):=by unfold J;kernel_rfl
theorem j9:J fun P f fn s c=>(c.inPlace==P.inPlace f):=by unfold J;kernel_rfl
end Go.Proofs.YtkikcohfbelmeacGreatDoor.spliceJoins
