/- Part 7 of the proof. -/
import Derived.Test.YtmhchflckonklaaGreatDoorZ3
import Derived.KernelRfl
set_option maxHeartbeats 8000000
set_option linter.unusedVariables false
section
namespace Go.Proofs.YtmhchflckonklaaGreatDoor
open Go Go.Ax
theorem a143:jV (ground.env sp6) 143 t143=true:=by kernel_rfl
theorem a23:jV (ground.env Od) 23 t23=true:=by kernel_rfl
theorem a28:jV (ground.env Rc) 28 t28=true:=by kernel_rfl
end Go.Proofs.YtmhchflckonklaaGreatDoor
end
