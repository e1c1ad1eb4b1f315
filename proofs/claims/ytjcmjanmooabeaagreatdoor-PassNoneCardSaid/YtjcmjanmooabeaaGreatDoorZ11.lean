/- Part 11 of the proof. -/
import Derived.Test.YtjcmjanmooabeaaGreatDoorZ4
import Derived.KernelRfl
set_option maxHeartbeats 8000000
set_option linter.unusedVariables false
set_option linter.unusedSimpArgs false
section
namespace Go.Proofs.YtjcmjanmooabeaaGreatDoor
open Go Go.Ax
theorem a48:reck (ground.env sp9) 48 t48=true:=by kernel_rfl
theorem a124:reck (ground.env sp13) 124 t124=true:=by kernel_rfl
theorem a235:reck (ground.env sp24) 235 t235=true:=by kernel_rfl
end Go.Proofs.YtjcmjanmooabeaaGreatDoor
end
