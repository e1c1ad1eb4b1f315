/- Part 7 of the proof. -/
import Derived.Test.YtlbbdpkjeeiahaaGreatDoorZ3
import Derived.KernelRfl
set_option maxHeartbeats 8000000
set_option linter.unusedVariables false
section
namespace Go.Proofs.YtlbbdpkjeeiahaaGreatDoor
open Go Go.Ax
theorem a124:jD (ground.env sp6) 124 t124 = true:=by kernel_rfl
theorem a14:jD (ground.env OG) 14 t14 = true:=by kernel_rfl
theorem a54:jD (ground.env LY) 54 t54 = true:=by kernel_rfl
end Go.Proofs.YtlbbdpkjeeiahaaGreatDoor
end
