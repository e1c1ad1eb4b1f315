/- Part 11 of the proof. -/
import Derived.Test.YtmbikbgdbbcbmaaGreatDoorZ3
import Derived.KernelRfl
set_option maxHeartbeats 8000000
set_option linter.unusedVariables false
section
namespace Go.Proofs.YtmbikbgdbbcbmaaGreatDoor
open Go Go.Ax
theorem a120:jZ (ground.env Xb) 120 t120=true:=by kernel_rfl
theorem a68:jZ (ground.env UR) 68 t68=true:=by kernel_rfl
theorem a142:jZ (ground.env UP) 142 t142=true:=by kernel_rfl
theorem a206:jZ (ground.env UN) 206 t206=true:=by kernel_rfl
theorem a115:jZ (ground.env ON) 115 t115=true:=by kernel_rfl
end Go.Proofs.YtmbikbgdbbcbmaaGreatDoor
end
