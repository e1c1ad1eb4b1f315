/- Part 9 of the proof. -/
import Derived.Test.YtlbbdpkjeeiahaaGreatDoorZ3
import Derived.KernelRfl
set_option maxHeartbeats 8000000
set_option linter.unusedVariables false
section
namespace Go.Proofs.YtlbbdpkjeeiahaaGreatDoor
open Go Go.Ax
theorem a253:jA (ground.env sp0) 253 t253 = true:=by kernel_rfl
theorem a186:jA (ground.env Ry) 186 t186 = true:=by kernel_rfl
theorem a147:jA (ground.env sp8) 147 t147 = true:=by kernel_rfl
theorem a19:jA (ground.env ML) 19 t19 = true:=by kernel_rfl
end Go.Proofs.YtlbbdpkjeeiahaaGreatDoor
end
