/- Part 5 of the proof. -/
import Derived.Test.YtmhchflckonklaaGreatDoorZ3
import Derived.KernelRfl
set_option maxHeartbeats 8000000
set_option linter.unusedVariables false
section
namespace Go.Proofs.YtmhchflckonklaaGreatDoor
open Go Go.Ax
theorem a11:jV (ground.env WB) 11 t11=true:=by kernel_rfl
end Go.Proofs.YtmhchflckonklaaGreatDoor
end
