/- Part 8 of the proof. -/
import Derived.Test.YtmbikbgdbbcbmaaGreatDoorZ3
import Derived.KernelRfl
set_option maxHeartbeats 8000000
set_option linter.unusedVariables false
section
namespace Go.Proofs.YtmbikbgdbbcbmaaGreatDoor
open Go Go.Ax
theorem a150:kE (ground.env sp4) 150 t150=true:=by kernel_rfl
theorem a93:kE (ground.env PD) 93 t93=true:=by kernel_rfl
theorem a242:kE (ground.env SP) 242 t242=true:=by kernel_rfl
theorem a101:kE (ground.env VW) 101 t101=true:=by kernel_rfl
end Go.Proofs.YtmbikbgdbbcbmaaGreatDoor
end
