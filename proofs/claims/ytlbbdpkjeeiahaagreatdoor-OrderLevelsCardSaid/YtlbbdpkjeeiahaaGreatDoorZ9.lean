/- Part 9 of the proof. -/
import Derived.Test.YtlbbdpkjeeiahaaGreatDoorZ3
import Derived.KernelRfl
set_option maxHeartbeats 8000000
set_option linter.unusedVariables false
section
namespace Go.Proofs.YtlbbdpkjeeiahaaGreatDoor
open Go Go.Ax
theorem a253:jD (ground.env sp0) 253 t253 = true:=by kernel_rfl
theorem a186:jD (ground.env QL) 186 t186 = true:=by kernel_rfl
theorem a147:jD (ground.env sp8) 147 t147 = true:=by kernel_rfl
theorem a19:jD (ground.env L6) 19 t19 = true:=by kernel_rfl
end Go.Proofs.YtlbbdpkjeeiahaaGreatDoor
end
