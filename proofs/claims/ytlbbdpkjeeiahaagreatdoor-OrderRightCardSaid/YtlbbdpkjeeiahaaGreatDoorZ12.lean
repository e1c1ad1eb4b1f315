/- Part 12 of the proof's own texts (pressed by a program of its author's). -/
import Derived.Test.YtlbbdpkjeeiahaaGreatDoorZ3
import Derived.KernelRfl
section
set_option maxHeartbeats 8000000
namespace Go.Proofs.YtlbbdpkjeeiahaaGreatDoor
open Go Go.Ax
theorem a224:iY (ground.env RS) 224 t224 = true:=by kernel_rfl
theorem a199:iY (ground.env Gx) 199 t199 = true:=by kernel_rfl
theorem a94:iY (ground.env Ll) 94 t94 = true:=by kernel_rfl
theorem a114:iY (ground.env NL) 114 t114 = true:=by kernel_rfl
theorem a163:iY (ground.env Qb) 163 t163 = true:=by kernel_rfl
end Go.Proofs.YtlbbdpkjeeiahaaGreatDoor
end
