/- Part 12 of the proof's own texts (pressed by a program of its author's). -/
import Derived.Test.YtlbbdpkjeeiahaaGreatDoorZ3
import Derived.KernelRfl
section
set_option maxHeartbeats 8000000
set_option linter.unusedVariables false
namespace Go.Proofs.YtlbbdpkjeeiahaaGreatDoor
open Go Go.Ax
theorem a224:jD (ground.env TD) 224 t224 = true:=by kernel_rfl
theorem a199:jD (ground.env Mn) 199 t199 = true:=by kernel_rfl
theorem a94:jD (ground.env Mw) 94 t94 = true:=by kernel_rfl
theorem a114:jD (ground.env Ph) 114 t114 = true:=by kernel_rfl
theorem a163:jD (ground.env Mp) 163 t163 = true:=by kernel_rfl
end Go.Proofs.YtlbbdpkjeeiahaaGreatDoor
end
