/- Part 11 of the proof. -/
import Derived.Test.YtmbikbgdbbcbmaaGreatDoorZ3
import Derived.KernelRfl
set_option maxHeartbeats 8000000
set_option linter.unusedVariables false
section
namespace Go.Proofs.YtmbikbgdbbcbmaaGreatDoor
open Go Go.Ax
theorem a120:jY (ground.env sp9) 120 t120=true:=by kernel_rfl
theorem a68:jY (ground.env Vj) 68 t68=true:=by kernel_rfl
theorem a142:jY (ground.env Vh) 142 t142=true:=by kernel_rfl
theorem a206:jY (ground.env Vf) 206 t206=true:=by kernel_rfl
theorem a115:jY (ground.env Vd) 115 t115=true:=by kernel_rfl
end Go.Proofs.YtmbikbgdbbcbmaaGreatDoor
end
