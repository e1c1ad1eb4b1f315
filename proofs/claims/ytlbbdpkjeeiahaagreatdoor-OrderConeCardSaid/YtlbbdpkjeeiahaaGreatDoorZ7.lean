/- Part 7 of the proof's own texts (pressed by a program of its author's). -/
import Derived.Test.YtlbbdpkjeeiahaaGreatDoorZ3
import Derived.KernelRfl
section
set_option maxHeartbeats 8000000
set_option linter.unusedVariables false
namespace Go.Proofs.YtlbbdpkjeeiahaaGreatDoor
open Go Go.Ax
theorem a124:jD (ground.env TY) 124 t124 = true:=by kernel_rfl
theorem a14:jD (ground.env Pk) 14 t14 = true:=by kernel_rfl
theorem a54:jD (ground.env Mt) 54 t54 = true:=by kernel_rfl
end Go.Proofs.YtlbbdpkjeeiahaaGreatDoor
end
