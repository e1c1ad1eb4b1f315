/- AX: known answers, reckoned: printed by memotab.py. -/
/- AX: known answers, reckoned: printed by memotab.py. -/
import Derived.Test.YtmbhjdkbcgngiaaGreatDoorZ4
import Derived.KernelRfl
section
namespace Go.Proofs.YtmbhjdkbcgngiaaGreatDoor
open Go Go.Ax
theorem a232_1 : Ax.call (ground.env sp0) 100000 232 e232_1.1 = some e232_1.2 := by kernel_rfl
theorem a205_1 : Ax.call (ground.env sp1) 100000 205 e205_1.1 = some e205_1.2 := by kernel_rfl
theorem a205_8 : Ax.call (ground.env sp1) 100000 205 e205_8.1 = some e205_8.2 := by kernel_rfl
theorem a185_4 : Ax.call (ground.env sp3) 100000 185 e185_4.1 = some e185_4.2 := by kernel_rfl
theorem a122_0 : Ax.call (ground.env sp4) 100000 122 e122_0.1 = some e122_0.2 := by kernel_rfl
theorem a122_5 : Ax.call (ground.env sp4) 100000 122 e122_5.1 = some e122_5.2 := by kernel_rfl
theorem a188_0 : Ax.call (ground.env sp5) 100000 188 e188_0.1 = some e188_0.2 := by kernel_rfl
theorem a188_6 : Ax.call (ground.env sp5) 100000 188 e188_6.1 = some e188_6.2 := by kernel_rfl
theorem a58_0 : Ax.call (ground.env sp16) 100000 58 e58_0.1 = some e58_0.2 := by kernel_rfl
theorem a9_0 : Ax.call (ground.env sp30) 100000 9 e9_0.1 = some e9_0.2 := by kernel_rfl
end Go.Proofs.YtmbhjdkbcgngiaaGreatDoor
end
section
namespace Go.Proofs.YtmbhjdkbcgngiaaGreatDoor
open Go Go.Ax
theorem a232_4 : Ax.call (ground.env sp0) 100000 232 e232_4.1 = some e232_4.2 := by kernel_rfl
theorem a232_9 : Ax.call (ground.env sp0) 100000 232 e232_9.1 = some e232_9.2 := by kernel_rfl
theorem a205_0 : Ax.call (ground.env sp1) 100000 205 e205_0.1 = some e205_0.2 := by kernel_rfl
theorem a205_7 : Ax.call (ground.env sp1) 100000 205 e205_7.1 = some e205_7.2 := by kernel_rfl
theorem a172_5 : Ax.call (ground.env sp2) 100000 172 e172_5.1 = some e172_5.2 := by kernel_rfl
theorem a185_1 : Ax.call (ground.env sp3) 100000 185 e185_1.1 = some e185_1.2 := by kernel_rfl
theorem a185_7 : Ax.call (ground.env sp3) 100000 185 e185_7.1 = some e185_7.2 := by kernel_rfl
theorem a122_3 : Ax.call (ground.env sp4) 100000 122 e122_3.1 = some e122_3.2 := by kernel_rfl
theorem a98_2 : Ax.call (ground.env sp9) 100000 98 e98_2.1 = some e98_2.2 := by kernel_rfl
theorem a70_2 : Ax.call (ground.env sp11) 100000 70 e70_2.1 = some e70_2.2 := by kernel_rfl
theorem a73_0 : Ax.call (ground.env sp13) 100000 73 e73_0.1 = some e73_0.2 := by kernel_rfl
theorem a175_1 : Ax.call (ground.env sp22) 100000 175 e175_1.1 = some e175_1.2 := by kernel_rfl
end Go.Proofs.YtmbhjdkbcgngiaaGreatDoor
end
