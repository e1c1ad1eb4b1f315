/- Part 12 of the proof. -/
import Derived.Test.YtmhchflckonklaaGreatDoorZ3
import Derived.KernelRfl
set_option maxHeartbeats 8000000
set_option linter.unusedVariables false
section
namespace Go.Proofs.YtmhchflckonklaaGreatDoor
open Go Go.Ax
theorem a233:jK (ground.env Pd) 233 t233 = true:=by kernel_rfl
theorem a206:jK (ground.env Pc) 206 t206 = true:=by kernel_rfl
theorem a82:jK (ground.env PC) 82 t82 = true:=by kernel_rfl
theorem a133:jK (ground.env SL) 133 t133 = true:=by kernel_rfl
theorem a171:jK (ground.env SH) 171 t171 = true:=by kernel_rfl
end Go.Proofs.YtmhchflckonklaaGreatDoor
end
