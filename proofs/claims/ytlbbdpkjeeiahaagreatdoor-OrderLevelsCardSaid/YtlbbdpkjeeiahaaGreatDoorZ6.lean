/- Part 6 of the proof. -/
import Derived.Test.YtlbbdpkjeeiahaaGreatDoorZ3
import Derived.KernelRfl
set_option maxHeartbeats 8000000
set_option linter.unusedVariables false
section
namespace Go.Proofs.YtlbbdpkjeeiahaaGreatDoor
open Go Go.Ax
theorem a202:jD (ground.env sp5) 202 t202 = true:=by kernel_rfl
theorem a70:jD (ground.env Rr) 70 t70 = true:=by kernel_rfl
theorem a75:jD (ground.env Ow) 75 t75 = true:=by kernel_rfl
end Go.Proofs.YtlbbdpkjeeiahaaGreatDoor
end
