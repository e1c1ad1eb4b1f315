/- Part 11 of the proof. -/
import Derived.Test.YtmbikbgdbbcbmaaGreatDoorZ3
import Derived.KernelRfl
set_option maxHeartbeats 8000000
set_option linter.unusedVariables false
section
namespace Go.Proofs.YtmbikbgdbbcbmaaGreatDoor
open Go Go.Ax
theorem a120:kE (ground.env sp9) 120 t120=true:=by kernel_rfl
theorem a68:kE (ground.env V6) 68 t68=true:=by kernel_rfl
theorem a142:kE (ground.env V4) 142 t142=true:=by kernel_rfl
theorem a206:kE (ground.env V2) 206 t206=true:=by kernel_rfl
theorem a115:kE (ground.env VY) 115 t115=true:=by kernel_rfl
end Go.Proofs.YtmbikbgdbbcbmaaGreatDoor
end
