/- Part 8 of the proof's own texts (pressed by a program of its author's). -/
import Derived.Test.YtlbbdpkjeeiahaaGreatDoorZ3
import Derived.KernelRfl
section
set_option maxHeartbeats 8000000
set_option linter.unusedVariables false
namespace Go.Proofs.YtlbbdpkjeeiahaaGreatDoor
open Go Go.Ax
theorem a125:jD (ground.env sp4) 125 t125 = true:=by kernel_rfl
theorem a93:jD (ground.env Mv) 93 t93 = true:=by kernel_rfl
theorem a229:jD (ground.env Pe) 229 t229 = true:=by kernel_rfl
theorem a82:jD (ground.env Pc) 82 t82 = true:=by kernel_rfl
end Go.Proofs.YtlbbdpkjeeiahaaGreatDoor
end
