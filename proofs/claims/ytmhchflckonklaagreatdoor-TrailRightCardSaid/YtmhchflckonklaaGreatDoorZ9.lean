/- Part 9 of the proof. -/
import Derived.Test.YtmhchflckonklaaGreatDoorZ3
import Derived.KernelRfl
set_option maxHeartbeats 8000000
set_option linter.unusedVariables false
section
namespace Go.Proofs.YtmhchflckonklaaGreatDoor
open Go Go.Ax
theorem a262:jV (ground.env sp0) 262 t262=true:=by kernel_rfl
theorem a193:jV (ground.env GC) 193 t193=true:=by kernel_rfl
theorem a154:jV (ground.env sp8) 154 t154=true:=by kernel_rfl
theorem a13:jV (ground.env Of) 13 t13=true:=by kernel_rfl
end Go.Proofs.YtmhchflckonklaaGreatDoor
end
