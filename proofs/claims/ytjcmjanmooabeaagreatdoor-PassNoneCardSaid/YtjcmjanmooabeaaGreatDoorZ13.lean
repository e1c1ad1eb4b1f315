/- Part 13 of the proof. -/
import Derived.Test.YtjcmjanmooabeaaGreatDoorZ4
import Derived.KernelRfl
set_option maxHeartbeats 8000000
set_option linter.unusedVariables false
set_option linter.unusedSimpArgs false
section
namespace Go.Proofs.YtjcmjanmooabeaaGreatDoor
open Go Go.Ax
theorem a167:reck (ground.env sp5) 167 t167=true:=by kernel_rfl
theorem a47:reck (ground.env sp7) 47 t47=true:=by kernel_rfl
theorem a37:reck (ground.env sp30) 37 t37=true:=by kernel_rfl
theorem a72:reck (ground.env sp33) 72 t72=true:=by kernel_rfl
end Go.Proofs.YtjcmjanmooabeaaGreatDoor
end
