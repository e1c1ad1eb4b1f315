/- Part 6 of the proof's own texts (pressed by a program of its author's). -/
import Derived.Test.YtlbbdpkjeeiahaaGreatDoorZ3
import Derived.KernelRfl
section
set_option maxHeartbeats 8000000
set_option linter.unusedVariables false
namespace Go.Proofs.YtlbbdpkjeeiahaaGreatDoor
open Go Go.Ax
theorem a202:jD (ground.env Rm) 202 t202 = true:=by kernel_rfl
theorem a70:jD (ground.env RN) 70 t70 = true:=by kernel_rfl
theorem a75:jD (ground.env Pd) 75 t75 = true:=by kernel_rfl
end Go.Proofs.YtlbbdpkjeeiahaaGreatDoor
end
