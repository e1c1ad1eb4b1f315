/- Part 17 of the proof. -/
import Derived.Test.YtjcmjanmooabeaaGreatDoorZ4
import Derived.KernelRfl
set_option maxHeartbeats 8000000
set_option linter.unusedVariables false
set_option linter.unusedSimpArgs false
section
namespace Go.Proofs.YtjcmjanmooabeaaGreatDoor
open Go Go.Ax
theorem a68:reck (ground.env sp8) 68 t68=true:=by kernel_rfl
theorem a75:reck (ground.env sp16) 75 t75=true:=by kernel_rfl
theorem a77:reck (ground.env sp17) 77 t77=true:=by kernel_rfl
theorem a152:reck (ground.env sp25) 152 t152=true:=by kernel_rfl
theorem a14:reck (ground.env sp32) 14 t14=true:=by kernel_rfl
end Go.Proofs.YtjcmjanmooabeaaGreatDoor
end
