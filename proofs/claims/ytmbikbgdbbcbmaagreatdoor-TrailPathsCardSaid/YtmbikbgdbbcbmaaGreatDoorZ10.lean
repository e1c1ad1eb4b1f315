/- Part 10 of the proof. -/
import Derived.Test.YtmbikbgdbbcbmaaGreatDoorZ3
import Derived.KernelRfl
set_option maxHeartbeats 8000000
set_option linter.unusedVariables false
section
namespace Go.Proofs.YtmbikbgdbbcbmaaGreatDoor
open Go Go.Ax
theorem a119:jY (ground.env sp7) 119 t119=true:=by kernel_rfl
theorem a78:jY (ground.env OU) 78 t78=true:=by kernel_rfl
theorem a25:jY (ground.env R3) 25 t25=true:=by kernel_rfl
theorem a32:jY (ground.env RZ) 32 t32=true:=by kernel_rfl
theorem a203:jY (ground.env RW) 203 t203=true:=by kernel_rfl
end Go.Proofs.YtmbikbgdbbcbmaaGreatDoor
end
