/- Part 8 of the proof's own texts (pressed by a program of its author's). -/
import Derived.Test.YtlbbdpkjeeiahaaGreatDoorZ3
import Derived.KernelRfl
section
set_option maxHeartbeats 8000000
namespace Go.Proofs.YtlbbdpkjeeiahaaGreatDoor
open Go Go.Ax
theorem a125:iY (ground.env RR) 125 t125 = true:=by kernel_rfl
theorem a93:iY (ground.env Lj) 93 t93 = true:=by kernel_rfl
theorem a229:iY (ground.env NI) 229 t229 = true:=by kernel_rfl
theorem a82:iY (ground.env P_) 82 t82 = true:=by kernel_rfl
end Go.Proofs.YtlbbdpkjeeiahaaGreatDoor
end
