/- AX: known answers, reckoned: printed by memotab.py. -/
/- AX: known answers, reckoned: printed by memotab.py. -/
import Derived.Test.YtmbhjdkbcgngiaaGreatDoorZ4
import Derived.KernelRfl
section
namespace Go.Proofs.YtmbhjdkbcgngiaaGreatDoor
open Go Go.Ax
theorem a232_3 : Ax.call (ground.env sp0) 100000 232 e232_3.1 = some e232_3.2 := by kernel_rfl
theorem a205_6 : Ax.call (ground.env sp1) 100000 205 e205_6.1 = some e205_6.2 := by kernel_rfl
theorem a172_11 : Ax.call (ground.env sp2) 100000 172 e172_11.1 = some e172_11.2 := by kernel_rfl
theorem a172_12 : Ax.call (ground.env sp2) 100000 172 e172_12.1 = some e172_12.2 := by kernel_rfl
theorem a185_0 : Ax.call (ground.env sp3) 100000 185 e185_0.1 = some e185_0.2 := by kernel_rfl
theorem a185_6 : Ax.call (ground.env sp3) 100000 185 e185_6.1 = some e185_6.2 := by kernel_rfl
theorem a188_2 : Ax.call (ground.env sp5) 100000 188 e188_2.1 = some e188_2.2 := by kernel_rfl
theorem a121_1 : Ax.call (ground.env sp6) 100000 121 e121_1.1 = some e121_1.2 := by kernel_rfl
theorem a97_2 : Ax.call (ground.env sp7) 100000 97 e97_2.1 = some e97_2.2 := by kernel_rfl
theorem a98_0 : Ax.call (ground.env sp9) 100000 98 e98_0.1 = some e98_0.2 := by kernel_rfl
theorem a57_2 : Ax.call (ground.env sp10) 100000 57 e57_2.1 = some e57_2.2 := by kernel_rfl
theorem a50_0 : Ax.call (ground.env sp18) 100000 50 e50_0.1 = some e50_0.2 := by kernel_rfl
theorem a114_0 : Ax.call (ground.env sp21) 100000 114 e114_0.1 = some e114_0.2 := by kernel_rfl
theorem a210_0 : Ax.call (ground.env sp25) 100000 210 e210_0.1 = some e210_0.2 := by kernel_rfl
end Go.Proofs.YtmbhjdkbcgngiaaGreatDoor
end
section
namespace Go.Proofs.YtmbhjdkbcgngiaaGreatDoor
open Go Go.Ax
theorem a232_6 : Ax.call (ground.env sp0) 100000 232 e232_6.1 = some e232_6.2 := by kernel_rfl
theorem a205_3 : Ax.call (ground.env sp1) 100000 205 e205_3.1 = some e205_3.2 := by kernel_rfl
theorem a172_2 : Ax.call (ground.env sp2) 100000 172 e172_2.1 = some e172_2.2 := by kernel_rfl
theorem a172_7 : Ax.call (ground.env sp2) 100000 172 e172_7.1 = some e172_7.2 := by kernel_rfl
theorem a172_9 : Ax.call (ground.env sp2) 100000 172 e172_9.1 = some e172_9.2 := by kernel_rfl
theorem a185_3 : Ax.call (ground.env sp3) 100000 185 e185_3.1 = some e185_3.2 := by kernel_rfl
theorem a122_4 : Ax.call (ground.env sp4) 100000 122 e122_4.1 = some e122_4.2 := by kernel_rfl
theorem a188_4 : Ax.call (ground.env sp5) 100000 188 e188_4.1 = some e188_4.2 := by kernel_rfl
theorem a130_0 : Ax.call (ground.env sp8) 100000 130 e130_0.1 = some e130_0.2 := by kernel_rfl
theorem a70_0 : Ax.call (ground.env sp11) 100000 70 e70_0.1 = some e70_0.2 := by kernel_rfl
theorem a46_0 : Ax.call (ground.env sp12) 100000 46 e46_0.1 = some e46_0.2 := by kernel_rfl
theorem a24_0 : Ax.call (ground.env sp19) 100000 24 e24_0.1 = some e24_0.2 := by kernel_rfl
theorem a175_0 : Ax.call (ground.env sp22) 100000 175 e175_0.1 = some e175_0.2 := by kernel_rfl
theorem a72_2 : Ax.call (ground.env sp28) 100000 72 e72_2.1 = some e72_2.2 := by kernel_rfl
end Go.Proofs.YtmbhjdkbcgngiaaGreatDoor
end
