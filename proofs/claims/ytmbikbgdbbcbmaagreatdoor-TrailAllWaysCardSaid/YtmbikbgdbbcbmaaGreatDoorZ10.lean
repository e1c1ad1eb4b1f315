/- Part 10 of the proof. -/
import Derived.Test.YtmbikbgdbbcbmaaGreatDoorZ3
import Derived.KernelRfl
set_option maxHeartbeats 8000000
set_option linter.unusedVariables false
section
namespace Go.Proofs.YtmbikbgdbbcbmaaGreatDoor
open Go Go.Ax
theorem a119:kE (ground.env YB) 119 t119=true:=by kernel_rfl
theorem a78:kE (ground.env PE) 78 t78=true:=by kernel_rfl
theorem a25:kE (ground.env SZ) 25 t25=true:=by kernel_rfl
theorem a32:kE (ground.env SX) 32 t32=true:=by kernel_rfl
theorem a203:kE (ground.env SQ) 203 t203=true:=by kernel_rfl
end Go.Proofs.YtmbikbgdbbcbmaaGreatDoor
end
