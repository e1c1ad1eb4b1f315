/- Part 10 of the proof's own texts (pressed by a program of its author's). -/
import Derived.Test.YtlbbdpkjeeiahaaGreatDoorZ3
import Derived.KernelRfl
section
set_option maxHeartbeats 8000000
set_option linter.unusedVariables false
namespace Go.Proofs.YtlbbdpkjeeiahaaGreatDoor
open Go Go.Ax
theorem a108:jD (ground.env sp7) 108 t108 = true:=by kernel_rfl
theorem a63:jD (ground.env Mx) 63 t63 = true:=by kernel_rfl
theorem a15:jD (ground.env Pj) 15 t15 = true:=by kernel_rfl
theorem a53:jD (ground.env Mu) 53 t53 = true:=by kernel_rfl
theorem a190:jD (ground.env Mq) 190 t190 = true:=by kernel_rfl
end Go.Proofs.YtlbbdpkjeeiahaaGreatDoor
end
