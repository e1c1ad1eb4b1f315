/- Part 10 of the proof. -/
import Derived.Test.YtlbbdpkjeeiahaaGreatDoorZ3
import Derived.KernelRfl
set_option maxHeartbeats 8000000
set_option linter.unusedVariables false
section
namespace Go.Proofs.YtlbbdpkjeeiahaaGreatDoor
open Go Go.Ax
theorem a108:jD (ground.env Tt) 108 t108 = true:=by kernel_rfl
theorem a63:jD (ground.env L5) 63 t63 = true:=by kernel_rfl
theorem a15:jD (ground.env L2) 15 t15 = true:=by kernel_rfl
theorem a53:jD (ground.env LZ) 53 t53 = true:=by kernel_rfl
theorem a190:jD (ground.env OB) 190 t190 = true:=by kernel_rfl
end Go.Proofs.YtlbbdpkjeeiahaaGreatDoor
end
