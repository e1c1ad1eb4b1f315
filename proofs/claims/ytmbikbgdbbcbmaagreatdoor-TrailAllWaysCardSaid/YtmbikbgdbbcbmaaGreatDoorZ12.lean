/- Part 12 of the proof. -/
import Derived.Test.YtmbikbgdbbcbmaaGreatDoorZ3
import Derived.KernelRfl
set_option maxHeartbeats 8000000
set_option linter.unusedVariables false
section
namespace Go.Proofs.YtmbikbgdbbcbmaaGreatDoor
open Go Go.Ax
theorem a237:kE (ground.env Vg) 237 t237=true:=by kernel_rfl
theorem a212:kE (ground.env Ss) 212 t212=true:=by kernel_rfl
theorem a88:kE (ground.env SY) 88 t88=true:=by kernel_rfl
theorem a139:kE (ground.env SU) 139 t139=true:=by kernel_rfl
theorem a177:kE (ground.env VZ) 177 t177=true:=by kernel_rfl
end Go.Proofs.YtmbikbgdbbcbmaaGreatDoor
end
