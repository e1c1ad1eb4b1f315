/- Part 4 of the proof. -/
import Derived.Test.YtmbikbgdbbcbmaaGreatDoorZ3
import Derived.KernelRfl
set_option maxHeartbeats 8000000
set_option linter.unusedVariables false
section
namespace Go.Proofs.YtmbikbgdbbcbmaaGreatDoor
open Go Go.Ax
theorem a202:kE (ground.env V3) 202 t202=true:=by kernel_rfl
end Go.Proofs.YtmbikbgdbbcbmaaGreatDoor
end
