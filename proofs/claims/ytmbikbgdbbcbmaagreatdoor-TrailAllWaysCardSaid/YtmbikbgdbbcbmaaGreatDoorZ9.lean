/- Part 9 of the proof. -/
import Derived.Test.YtmbikbgdbbcbmaaGreatDoorZ3
import Derived.KernelRfl
set_option maxHeartbeats 8000000
set_option linter.unusedVariables false
section
namespace Go.Proofs.YtmbikbgdbbcbmaaGreatDoor
open Go Go.Ax
theorem a266:kE (ground.env sp0) 266 t266=true:=by kernel_rfl
theorem a199:kE (ground.env St) 199 t199=true:=by kernel_rfl
theorem a158:kE (ground.env sp8) 158 t158=true:=by kernel_rfl
theorem a13:kE (ground.env PF) 13 t13=true:=by kernel_rfl
end Go.Proofs.YtmbikbgdbbcbmaaGreatDoor
end
