/- Part 11 of the proof. -/
import Derived.Test.YtmhchflckonklaaGreatDoorZ3
import Derived.KernelRfl
set_option maxHeartbeats 8000000
set_option linter.unusedVariables false
section
namespace Go.Proofs.YtmhchflckonklaaGreatDoor
open Go Go.Ax
theorem a116:jV (ground.env sp9) 116 t116=true:=by kernel_rfl
theorem a61:jV (ground.env Rj) 61 t61=true:=by kernel_rfl
theorem a136:jV (ground.env Uk) 136 t136=true:=by kernel_rfl
theorem a200:jV (ground.env Ui) 200 t200=true:=by kernel_rfl
theorem a106:jV (ground.env Ug) 106 t106=true:=by kernel_rfl
end Go.Proofs.YtmhchflckonklaaGreatDoor
end
