/- Part 14 of the proof. -/
import Derived.Test.YtjcmjanmooabeaaGreatDoorZ4
import Derived.KernelRfl
set_option maxHeartbeats 8000000
set_option linter.unusedVariables false
set_option linter.unusedSimpArgs false
section
namespace Go.Proofs.YtjcmjanmooabeaaGreatDoor
open Go Go.Ax
theorem a193:reck (ground.env sp2) 193 t193=true:=by kernel_rfl
theorem a164:reck (ground.env sp3) 164 t164=true:=by kernel_rfl
theorem a20:reck (ground.env sp10) 20 t20=true:=by kernel_rfl
theorem a84:reck (ground.env sp14) 84 t84=true:=by kernel_rfl
theorem a38:reck (ground.env sp31) 38 t38=true:=by kernel_rfl
end Go.Proofs.YtjcmjanmooabeaaGreatDoor
end
