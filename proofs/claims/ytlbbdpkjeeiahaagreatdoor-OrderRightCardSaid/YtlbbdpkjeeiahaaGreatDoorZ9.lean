/- Part 9 of the proof's own texts (pressed by a program of its author's). -/
import Derived.Test.YtlbbdpkjeeiahaaGreatDoorZ3
import Derived.KernelRfl
section
set_option maxHeartbeats 8000000
namespace Go.Proofs.YtlbbdpkjeeiahaaGreatDoor
open Go Go.Ax
theorem a253:iY (ground.env sp0) 253 t253 = true:=by kernel_rfl
theorem a186:iY (ground.env PB) 186 t186 = true:=by kernel_rfl
theorem a147:iY (ground.env sp8) 147 t147 = true:=by kernel_rfl
theorem a19:iY (ground.env Lq) 19 t19 = true:=by kernel_rfl
end Go.Proofs.YtlbbdpkjeeiahaaGreatDoor
end
