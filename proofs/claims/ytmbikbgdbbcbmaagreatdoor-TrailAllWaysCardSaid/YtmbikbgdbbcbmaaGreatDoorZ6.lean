/- Part 6 of the proof. -/
import Derived.Test.YtmbikbgdbbcbmaaGreatDoorZ3
import Derived.KernelRfl
set_option maxHeartbeats 8000000
set_option linter.unusedVariables false
section
namespace Go.Proofs.YtmbikbgdbbcbmaaGreatDoor
open Go Go.Ax
theorem a215:kE (ground.env HV) 215 t215=true:=by kernel_rfl
theorem a69:kE (ground.env V5) 69 t69=true:=by kernel_rfl
theorem a77:kE (ground.env VX) 77 t77=true:=by kernel_rfl
end Go.Proofs.YtmbikbgdbbcbmaaGreatDoor
end
