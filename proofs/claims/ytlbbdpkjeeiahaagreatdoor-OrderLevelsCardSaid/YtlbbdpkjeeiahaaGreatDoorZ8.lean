/- Part 8 of the proof. -/
import Derived.Test.YtlbbdpkjeeiahaaGreatDoorZ3
import Derived.KernelRfl
set_option maxHeartbeats 8000000
set_option linter.unusedVariables false
section
namespace Go.Proofs.YtlbbdpkjeeiahaaGreatDoor
open Go Go.Ax
theorem a125:jD (ground.env sp4) 125 t125 = true:=by kernel_rfl
theorem a93:jD (ground.env L0) 93 t93 = true:=by kernel_rfl
theorem a229:jD (ground.env Oz) 229 t229 = true:=by kernel_rfl
theorem a82:jD (ground.env Ov) 82 t82 = true:=by kernel_rfl
end Go.Proofs.YtlbbdpkjeeiahaaGreatDoor
end
