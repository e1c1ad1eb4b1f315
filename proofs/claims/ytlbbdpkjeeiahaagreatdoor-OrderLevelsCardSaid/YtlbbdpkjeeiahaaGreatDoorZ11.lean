/- Part 11 of the proof. -/
import Derived.Test.YtlbbdpkjeeiahaaGreatDoorZ3
import Derived.KernelRfl
set_option maxHeartbeats 8000000
set_option linter.unusedVariables false
section
namespace Go.Proofs.YtlbbdpkjeeiahaaGreatDoor
open Go Go.Ax
theorem a109:jD (ground.env sp9) 109 t109 = true:=by kernel_rfl
theorem a62:jD (ground.env Rs) 62 t62 = true:=by kernel_rfl
theorem a117:jD (ground.env OD) 117 t117 = true:=by kernel_rfl
theorem a193:jD (ground.env OA) 193 t193 = true:=by kernel_rfl
theorem a86:jD (ground.env Ox) 86 t86 = true:=by kernel_rfl
end Go.Proofs.YtlbbdpkjeeiahaaGreatDoor
end
