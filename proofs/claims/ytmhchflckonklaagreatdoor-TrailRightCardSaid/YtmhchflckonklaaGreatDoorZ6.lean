/- Part 6 of the proof. -/
import Derived.Test.YtmhchflckonklaaGreatDoorZ3
import Derived.KernelRfl
set_option maxHeartbeats 8000000
set_option linter.unusedVariables false
section
namespace Go.Proofs.YtmhchflckonklaaGreatDoor
open Go Go.Ax
theorem a209:jV (ground.env Kt) 209 t209=true:=by kernel_rfl
theorem a62:jV (ground.env Um) 62 t62=true:=by kernel_rfl
theorem a70:jV (ground.env Uf) 70 t70=true:=by kernel_rfl
end Go.Proofs.YtmhchflckonklaaGreatDoor
end
