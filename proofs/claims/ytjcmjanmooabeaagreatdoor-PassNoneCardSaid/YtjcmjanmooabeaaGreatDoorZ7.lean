/- Part 7 of the proof. -/
import Derived.Test.YtjcmjanmooabeaaGreatDoorZ4
import Derived.KernelRfl
set_option maxHeartbeats 8000000
set_option linter.unusedVariables false
set_option linter.unusedSimpArgs false
section
namespace Go.Proofs.YtjcmjanmooabeaaGreatDoor
open Go Go.Ax
theorem a73:reck (ground.env sp12) 73 t73=true:=by kernel_rfl
end Go.Proofs.YtjcmjanmooabeaaGreatDoor
end
