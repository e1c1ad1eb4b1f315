/- Part 10 of the proof. -/
import Derived.Test.YtmhchflckonklaaGreatDoorZ3
import Derived.KernelRfl
set_option maxHeartbeats 8000000
set_option linter.unusedVariables false
section
namespace Go.Proofs.YtmhchflckonklaaGreatDoor
open Go Go.Ax
theorem a115:jK (ground.env sp7) 115 t115 = true:=by kernel_rfl
theorem a72:jK (ground.env MR) 72 t72 = true:=by kernel_rfl
theorem a25:jK (ground.env PD) 25 t25 = true:=by kernel_rfl
theorem a32:jK (ground.env PA) 32 t32 = true:=by kernel_rfl
theorem a197:jK (ground.env Py) 197 t197 = true:=by kernel_rfl
end Go.Proofs.YtmhchflckonklaaGreatDoor
end
