/- Part 12 of the proof. -/
import Derived.Test.YtlbbdpkjeeiahaaGreatDoorZ3
import Derived.KernelRfl
set_option maxHeartbeats 8000000
set_option linter.unusedVariables false
section
namespace Go.Proofs.YtlbbdpkjeeiahaaGreatDoor
open Go Go.Ax
theorem a224:jD (ground.env S8) 224 t224 = true:=by kernel_rfl
theorem a199:jD (ground.env Fe) 199 t199 = true:=by kernel_rfl
theorem a94:jD (ground.env L1) 94 t94 = true:=by kernel_rfl
theorem a114:jD (ground.env OE) 114 t114 = true:=by kernel_rfl
theorem a163:jD (ground.env Oy) 163 t163 = true:=by kernel_rfl
end Go.Proofs.YtlbbdpkjeeiahaaGreatDoor
end
