/- Part 6 of the proof. -/
import Derived.Test.YtmbikbgdbbcbmaaGreatDoorZ3
import Derived.KernelRfl
set_option maxHeartbeats 8000000
set_option linter.unusedVariables false
section
namespace Go.Proofs.YtmbikbgdbbcbmaaGreatDoor
open Go Go.Ax
theorem a215:jZ (ground.env sp5) 215 t215=true:=by kernel_rfl
theorem a69:jZ (ground.env UQ) 69 t69=true:=by kernel_rfl
theorem a77:jZ (ground.env UL) 77 t77=true:=by kernel_rfl
end Go.Proofs.YtmbikbgdbbcbmaaGreatDoor
end
