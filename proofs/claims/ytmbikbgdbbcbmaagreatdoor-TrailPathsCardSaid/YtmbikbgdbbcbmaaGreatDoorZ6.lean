/- Part 6 of the proof. -/
import Derived.Test.YtmbikbgdbbcbmaaGreatDoorZ3
import Derived.KernelRfl
set_option maxHeartbeats 8000000
set_option linter.unusedVariables false
section
namespace Go.Proofs.YtmbikbgdbbcbmaaGreatDoor
open Go Go.Ax
theorem a215:jY (ground.env Oc) 215 t215=true:=by kernel_rfl
theorem a69:jY (ground.env Vi) 69 t69=true:=by kernel_rfl
theorem a77:jY (ground.env Vc) 77 t77=true:=by kernel_rfl
end Go.Proofs.YtmbikbgdbbcbmaaGreatDoor
end
