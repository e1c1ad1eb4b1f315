/- Part 12 of the proof. -/
import Derived.Test.YtjcmjanmooabeaaGreatDoorZ4
import Derived.KernelRfl
set_option maxHeartbeats 8000000
set_option linter.unusedVariables false
set_option linter.unusedSimpArgs false
section
namespace Go.Proofs.YtjcmjanmooabeaaGreatDoor
open Go Go.Ax
theorem a119:reck (ground.env sp11) 119 t119=true:=by kernel_rfl
theorem a96:reck (ground.env sp18) 96 t96=true:=by kernel_rfl
theorem a197:reck (ground.env sp22) 197 t197=true:=by kernel_rfl
theorem a55:reck (ground.env sp26) 55 t55=true:=by kernel_rfl
end Go.Proofs.YtjcmjanmooabeaaGreatDoor
end
