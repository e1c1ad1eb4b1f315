/- Part 10 of the proof's own texts (pressed by a program of its author's). -/
import Derived.Test.YtlbbdpkjeeiahaaGreatDoorZ3
import Derived.KernelRfl
section
set_option maxHeartbeats 8000000
set_option linter.unusedVariables false
namespace Go.Proofs.YtlbbdpkjeeiahaaGreatDoor
open Go Go.Ax
theorem a108:jC (ground.env sp7) 108 t108 = true:=by kernel_rfl
theorem a63:jC (ground.env Mn) 63 t63 = true:=by kernel_rfl
theorem a15:jC (ground.env OX) 15 t15 = true:=by kernel_rfl
theorem a53:jC (ground.env Mj) 53 t53 = true:=by kernel_rfl
theorem a190:jC (ground.env Mg) 190 t190 = true:=by kernel_rfl
end Go.Proofs.YtlbbdpkjeeiahaaGreatDoor
end
