/- Part of the proof: the row's closed facts. Conditions: none. -/
import Derived.Test.YtjoohiokfkdfpaaGreatDoorRows
import Derived.Test.YtjoohiokfkdfpaaGreatDoorCards
import Derived.Test.YtjoohiokfkdfpaaGreatDoorTie
import Derived.WalkKit
import Derived.ProofKit
import Derived.OpenShut
import Derived.Handed
import Derived.SevenTiedAt
import Derived.KernelRfl
import Derived.Test.YtjoohiokfkdfpaaGreatDoorMU
noncomputable section
set_option linter.unusedVariables false
namespace Go.Proofs.YtjoohiokfkdfpaaGreatDoor.waveTrack
open Go.ChangeShapes Go.WideShapes Go.ChangeAt Go.RowKit
theorem j26:J fun P f fn s c=>(c.lifted==P.liftsFinal):=by unfold J;kernel_rfl
theorem j27:J fun P f fn s c=>(P.make==some c.make):=by unfold J;kernel_rfl
theorem j29:J fun P f fn s c=>(c.pinned==c.pinnedBy):=by unfold J;kernel_rfl
theorem j30:J fun P f fn s c=>(c.veiled==(fn.params.toList++s.plain.varTypes P++fn.resultTypes.toList).any (P.veiledRec ·)):=by unfold J;kernel_rfl
theorem j31:J fun P f fn s c=>c.veiledFits P fn.params.toList (fn.params.toList++s.plain.varTypes P++fn.resultTypes.toList):=by unfold J;kernel_rfl
theorem pn:Tryz.prog.funcNamed Rows.waveTrackRow.func=some 8:=by kernel_rfl
theorem pw:Rows.waveTrackRow.wfByText (OpenSpec.ofChange Rows.waveTrackSpec)=true:=by kernel_rfl
theorem pm : Tryz.pinned.checked.prog.mainIs = some (true, "743d7f9b62e1a6e89a39bf45edc40d8a762b90350578d7fd3e7eabb1cb1042e7".toList) := by kernel_rfl
theorem pl:false=Tryz.pinned.checked.prog.looks []:=by kernel_rfl
theorem pg:false=Rows.waveTrackRow.goesBy Tryz.pinned.checked.prog:=by kernel_rfl
end Go.Proofs.YtjoohiokfkdfpaaGreatDoor.waveTrack
