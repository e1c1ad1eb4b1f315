/- Part 10 of the proof. -/
import Derived.Test.YtlbbdpkjeeiahaaGreatDoorZ3
import Derived.KernelRfl
set_option maxHeartbeats 8000000
set_option linter.unusedVariables false
section
namespace Go.Proofs.YtlbbdpkjeeiahaaGreatDoor
open Go Go.Ax
theorem a108:jA (ground.env sp7) 108 t108 = true:=by kernel_rfl
theorem a63:jA (ground.env MJ) 63 t63 = true:=by kernel_rfl
theorem a15:jA (ground.env Py) 15 t15 = true:=by kernel_rfl
theorem a53:jA (ground.env MG) 53 t53 = true:=by kernel_rfl
theorem a190:jA (ground.env MC) 190 t190 = true:=by kernel_rfl
end Go.Proofs.YtlbbdpkjeeiahaaGreatDoor
end
