/- Part 8 of the proof. -/
import Derived.Test.YtmhchflckonklaaGreatDoorZ3
import Derived.KernelRfl
set_option maxHeartbeats 8000000
set_option linter.unusedVariables false
section
namespace Go.Proofs.YtmhchflckonklaaGreatDoor
open Go Go.Ax
theorem a144:jV (ground.env sp4) 144 t144=true:=by kernel_rfl
theorem a87:jV (ground.env Re) 87 t87=true:=by kernel_rfl
theorem a238:jV (ground.env Ra) 238 t238=true:=by kernel_rfl
theorem a96:jV (ground.env Ue) 96 t96=true:=by kernel_rfl
end Go.Proofs.YtmhchflckonklaaGreatDoor
end
