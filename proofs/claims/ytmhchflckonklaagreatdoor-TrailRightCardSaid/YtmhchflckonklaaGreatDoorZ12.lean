/- Part 12 of the proof. -/
import Derived.Test.YtmhchflckonklaaGreatDoorZ3
import Derived.KernelRfl
set_option maxHeartbeats 8000000
set_option linter.unusedVariables false
section
namespace Go.Proofs.YtmhchflckonklaaGreatDoor
open Go Go.Ax
theorem a233:jV (ground.env QS) 233 t233=true:=by kernel_rfl
theorem a206:jV (ground.env IX) 206 t206=true:=by kernel_rfl
theorem a82:jV (ground.env Rf) 82 t82=true:=by kernel_rfl
theorem a133:jV (ground.env Ul) 133 t133=true:=by kernel_rfl
theorem a171:jV (ground.env Uh) 171 t171=true:=by kernel_rfl
end Go.Proofs.YtmhchflckonklaaGreatDoor
end
