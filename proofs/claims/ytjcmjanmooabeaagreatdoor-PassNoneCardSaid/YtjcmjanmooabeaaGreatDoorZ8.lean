/- Part 8 of the proof. -/
import Derived.Test.YtjcmjanmooabeaaGreatDoorZ4
import Derived.KernelRfl
set_option maxHeartbeats 8000000
set_option linter.unusedVariables false
set_option linter.unusedSimpArgs false
section
namespace Go.Proofs.YtjcmjanmooabeaaGreatDoor
open Go Go.Ax
theorem a8:reck (ground.env sp34) 8 t8=true:=by kernel_rfl
end Go.Proofs.YtjcmjanmooabeaaGreatDoor
end
