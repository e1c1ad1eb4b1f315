/- Part 12 of the proof. -/
import Derived.Test.YtlbbdpkjeeiahaaGreatDoorZ3
import Derived.KernelRfl
set_option maxHeartbeats 8000000
set_option linter.unusedVariables false
section
namespace Go.Proofs.YtlbbdpkjeeiahaaGreatDoor
open Go Go.Ax
theorem a224:jA (ground.env TS) 224 t224 = true:=by kernel_rfl
theorem a199:jA (ground.env Mw) 199 t199 = true:=by kernel_rfl
theorem a94:jA (ground.env MI) 94 t94 = true:=by kernel_rfl
theorem a114:jA (ground.env Px) 114 t114 = true:=by kernel_rfl
theorem a163:jA (ground.env MB) 163 t163 = true:=by kernel_rfl
end Go.Proofs.YtlbbdpkjeeiahaaGreatDoor
end
