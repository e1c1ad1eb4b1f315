/- Part 15 of the proof. -/
import Derived.Test.YtjcmjanmooabeaaGreatDoorZ4
import Derived.KernelRfl
set_option maxHeartbeats 8000000
set_option linter.unusedVariables false
set_option linter.unusedSimpArgs false
section
namespace Go.Proofs.YtjcmjanmooabeaaGreatDoor
open Go Go.Ax
theorem a265:reck (ground.env sp0) 265 t265=true:=by kernel_rfl
theorem a230:reck (ground.env sp1) 230 t230=true:=by kernel_rfl
theorem a85:reck (ground.env sp15) 85 t85=true:=by kernel_rfl
theorem a101:reck (ground.env sp19) 101 t101=true:=by kernel_rfl
end Go.Proofs.YtjcmjanmooabeaaGreatDoor
end
