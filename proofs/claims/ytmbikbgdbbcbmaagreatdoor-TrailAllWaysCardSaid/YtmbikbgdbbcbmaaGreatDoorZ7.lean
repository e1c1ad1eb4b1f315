/- Part 7 of the proof. -/
import Derived.Test.YtmbikbgdbbcbmaaGreatDoorZ3
import Derived.KernelRfl
set_option maxHeartbeats 8000000
set_option linter.unusedVariables false
section
namespace Go.Proofs.YtmbikbgdbbcbmaaGreatDoor
open Go Go.Ax
theorem a149:kE (ground.env sp6) 149 t149=true:=by kernel_rfl
theorem a23:kE (ground.env S0) 23 t23=true:=by kernel_rfl
theorem a28:kE (ground.env PC) 28 t28=true:=by kernel_rfl
end Go.Proofs.YtmbikbgdbbcbmaaGreatDoor
end
