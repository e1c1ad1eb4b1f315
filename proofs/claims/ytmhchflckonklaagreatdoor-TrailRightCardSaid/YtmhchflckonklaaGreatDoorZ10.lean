/- Part 10 of the proof. -/
import Derived.Test.YtmhchflckonklaaGreatDoorZ3
import Derived.KernelRfl
set_option maxHeartbeats 8000000
set_option linter.unusedVariables false
section
namespace Go.Proofs.YtmhchflckonklaaGreatDoor
open Go Go.Ax
theorem a115:jV (ground.env Ww) 115 t115=true:=by kernel_rfl
theorem a72:jV (ground.env Oe) 72 t72=true:=by kernel_rfl
theorem a25:jV (ground.env Rh) 25 t25=true:=by kernel_rfl
theorem a32:jV (ground.env Oc) 32 t32=true:=by kernel_rfl
theorem a197:jV (ground.env Rb) 197 t197=true:=by kernel_rfl
end Go.Proofs.YtmhchflckonklaaGreatDoor
end
