/- AX: known answers, reckoned: printed by memotab.py. -/
/- AX: known answers, reckoned: printed by memotab.py. -/
import Derived.Test.YtmbhjdkbcgngiaaGreatDoorZ4
import Derived.KernelRfl
section
namespace Go.Proofs.YtmbhjdkbcgngiaaGreatDoor
open Go Go.Ax
theorem a232_1 : Ax.call (ground.env sp0) 100000 232 e232_1.1 = some e232_1.2 := by kernel_rfl
theorem a188_0 : Ax.call (ground.env sp5) 100000 188 e188_0.1 = some e188_0.2 := by kernel_rfl
theorem a188_9 : Ax.call (ground.env sp5) 100000 188 e188_9.1 = some e188_9.2 := by kernel_rfl
theorem a9_0 : Ax.call (ground.env sp30) 100000 9 e9_0.1 = some e9_0.2 := by kernel_rfl
end Go.Proofs.YtmbhjdkbcgngiaaGreatDoor
end
section
namespace Go.Proofs.YtmbhjdkbcgngiaaGreatDoor
open Go Go.Ax
theorem a232_6 : Ax.call (ground.env sp0) 100000 232 e232_6.1 = some e232_6.2 := by kernel_rfl
theorem a205_7 : Ax.call (ground.env sp1) 100000 205 e205_7.1 = some e205_7.2 := by kernel_rfl
theorem a172_6 : Ax.call (ground.env sp2) 100000 172 e172_6.1 = some e172_6.2 := by kernel_rfl
theorem a185_2 : Ax.call (ground.env sp3) 100000 185 e185_2.1 = some e185_2.2 := by kernel_rfl
theorem a185_8 : Ax.call (ground.env sp3) 100000 185 e185_8.1 = some e185_8.2 := by kernel_rfl
theorem a122_4 : Ax.call (ground.env sp4) 100000 122 e122_4.1 = some e122_4.2 := by kernel_rfl
theorem a98_2 : Ax.call (ground.env sp9) 100000 98 e98_2.1 = some e98_2.2 := by kernel_rfl
theorem a57_2 : Ax.call (ground.env sp10) 100000 57 e57_2.1 = some e57_2.2 := by kernel_rfl
theorem a70_1 : Ax.call (ground.env sp11) 100000 70 e70_1.1 = some e70_1.2 := by kernel_rfl
theorem a175_1 : Ax.call (ground.env sp22) 100000 175 e175_1.1 = some e175_1.2 := by kernel_rfl
end Go.Proofs.YtmbhjdkbcgngiaaGreatDoor
end
