/- Part 11 of the proof's own texts (pressed by a program of its author's). -/
import Derived.Test.YtlbbdpkjeeiahaaGreatDoorZ3
import Derived.KernelRfl
section
set_option maxHeartbeats 8000000
namespace Go.Proofs.YtlbbdpkjeeiahaaGreatDoor
open Go Go.Ax
theorem a109:iY (ground.env sp9) 109 t109 = true:=by kernel_rfl
theorem a62:iY (ground.env Qf) 62 t62 = true:=by kernel_rfl
theorem a117:iY (ground.env Qd) 117 t117 = true:=by kernel_rfl
theorem a193:iY (ground.env NJ) 193 t193 = true:=by kernel_rfl
theorem a86:iY (ground.env Qa) 86 t86 = true:=by kernel_rfl
end Go.Proofs.YtlbbdpkjeeiahaaGreatDoor
end
