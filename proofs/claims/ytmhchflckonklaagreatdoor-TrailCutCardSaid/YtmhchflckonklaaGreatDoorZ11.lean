/- Part 11 of the proof. -/
import Derived.Test.YtmhchflckonklaaGreatDoorZ3
import Derived.KernelRfl
set_option maxHeartbeats 8000000
set_option linter.unusedVariables false
section
namespace Go.Proofs.YtmhchflckonklaaGreatDoor
open Go Go.Ax
theorem a116:jK (ground.env sp9) 116 t116 = true:=by kernel_rfl
theorem a61:jK (ground.env MT) 61 t61 = true:=by kernel_rfl
theorem a136:jK (ground.env SK) 136 t136 = true:=by kernel_rfl
theorem a200:jK (ground.env SI) 200 t200 = true:=by kernel_rfl
theorem a106:jK (ground.env SG) 106 t106 = true:=by kernel_rfl
end Go.Proofs.YtmhchflckonklaaGreatDoor
end
