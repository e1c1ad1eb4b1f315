/- Part 16 of the proof. -/
import Derived.Test.YtjcmjanmooabeaaGreatDoorZ4
import Derived.KernelRfl
set_option maxHeartbeats 8000000
set_option linter.unusedVariables false
set_option linter.unusedSimpArgs false
section
namespace Go.Proofs.YtjcmjanmooabeaaGreatDoor
open Go Go.Ax
theorem a109:reck (ground.env sp4) 109 t109=true:=by kernel_rfl
theorem a104:reck (ground.env sp20) 104 t104=true:=by kernel_rfl
theorem a200:reck (ground.env sp23) 200 t200=true:=by kernel_rfl
theorem a129:reck (ground.env sp28) 129 t129=true:=by kernel_rfl
end Go.Proofs.YtjcmjanmooabeaaGreatDoor
end
