/- Part 6 of the proof. -/
import Derived.Test.YtlbbdpkjeeiahaaGreatDoorZ3
import Derived.KernelRfl
set_option maxHeartbeats 8000000
set_option linter.unusedVariables false
section
namespace Go.Proofs.YtlbbdpkjeeiahaaGreatDoor
open Go Go.Ax
theorem a202:jA (ground.env Pa) 202 t202 = true:=by kernel_rfl
theorem a70:jA (ground.env R1) 70 t70 = true:=by kernel_rfl
theorem a75:jA (ground.env Mz) 75 t75 = true:=by kernel_rfl
end Go.Proofs.YtlbbdpkjeeiahaaGreatDoor
end
