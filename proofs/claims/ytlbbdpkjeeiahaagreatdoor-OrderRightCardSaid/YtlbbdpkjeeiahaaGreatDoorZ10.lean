/- Part 10 of the proof's own texts (pressed by a program of its author's). -/
import Derived.Test.YtlbbdpkjeeiahaaGreatDoorZ3
import Derived.KernelRfl
section
set_option maxHeartbeats 8000000
namespace Go.Proofs.YtlbbdpkjeeiahaaGreatDoor
open Go Go.Ax
theorem a108:iY (ground.env sp7) 108 t108 = true:=by kernel_rfl
theorem a63:iY (ground.env Lp) 63 t63 = true:=by kernel_rfl
theorem a15:iY (ground.env Lm) 15 t15 = true:=by kernel_rfl
theorem a53:iY (ground.env Li) 53 t53 = true:=by kernel_rfl
theorem a190:iY (ground.env Qc) 190 t190 = true:=by kernel_rfl
end Go.Proofs.YtlbbdpkjeeiahaaGreatDoor
end
