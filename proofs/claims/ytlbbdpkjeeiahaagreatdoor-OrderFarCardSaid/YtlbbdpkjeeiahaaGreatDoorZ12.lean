/- Part 12 of the proof. -/
import Derived.Test.YtlbbdpkjeeiahaaGreatDoorZ3
import Derived.KernelRfl
set_option maxHeartbeats 8000000
set_option linter.unusedVariables false
section
namespace Go.Proofs.YtlbbdpkjeeiahaaGreatDoor
open Go Go.Ax
theorem a224:jC (ground.env Ur) 224 t224 = true:=by kernel_rfl
theorem a199:jC (ground.env M1) 199 t199 = true:=by kernel_rfl
theorem a94:jC (ground.env Nf) 94 t94 = true:=by kernel_rfl
theorem a114:jC (ground.env M_) 114 t114 = true:=by kernel_rfl
theorem a163:jC (ground.env M4) 163 t163 = true:=by kernel_rfl
end Go.Proofs.YtlbbdpkjeeiahaaGreatDoor
end
