/- AX: known answers, reckoned: printed by memotab.py. -/
/- AX: known answers, reckoned: printed by memotab.py. -/
import Derived.Test.YtmbhjdkbcgngiaaGreatDoorZ4
import Derived.KernelRfl
section
namespace Go.Proofs.YtmbhjdkbcgngiaaGreatDoor
open Go Go.Ax
theorem a232_2 : Ax.call (ground.env sp0) 100000 232 e232_2.1 = some e232_2.2 := by kernel_rfl
theorem a205_6 : Ax.call (ground.env sp1) 100000 205 e205_6.1 = some e205_6.2 := by kernel_rfl
theorem a172_5 : Ax.call (ground.env sp2) 100000 172 e172_5.1 = some e172_5.2 := by kernel_rfl
theorem a172_8 : Ax.call (ground.env sp2) 100000 172 e172_8.1 = some e172_8.2 := by kernel_rfl
theorem a185_4 : Ax.call (ground.env sp3) 100000 185 e185_4.1 = some e185_4.2 := by kernel_rfl
theorem a122_0 : Ax.call (ground.env sp4) 100000 122 e122_0.1 = some e122_0.2 := by kernel_rfl
theorem a121_0 : Ax.call (ground.env sp6) 100000 121 e121_0.1 = some e121_0.2 := by kernel_rfl
theorem a130_0 : Ax.call (ground.env sp8) 100000 130 e130_0.1 = some e130_0.2 := by kernel_rfl
theorem a98_1 : Ax.call (ground.env sp9) 100000 98 e98_1.1 = some e98_1.2 := by kernel_rfl
theorem a57_0 : Ax.call (ground.env sp10) 100000 57 e57_0.1 = some e57_0.2 := by kernel_rfl
theorem a24_0 : Ax.call (ground.env sp19) 100000 24 e24_0.1 = some e24_0.2 := by kernel_rfl
theorem a210_0 : Ax.call (ground.env sp25) 100000 210 e210_0.1 = some e210_0.2 := by kernel_rfl
end Go.Proofs.YtmbhjdkbcgngiaaGreatDoor
end
section
namespace Go.Proofs.YtmbhjdkbcgngiaaGreatDoor
open Go Go.Ax
theorem a232_5 : Ax.call (ground.env sp0) 100000 232 e232_5.1 = some e232_5.2 := by kernel_rfl
theorem a205_1 : Ax.call (ground.env sp1) 100000 205 e205_1.1 = some e205_1.2 := by kernel_rfl
theorem a172_1 : Ax.call (ground.env sp2) 100000 172 e172_1.1 = some e172_1.2 := by kernel_rfl
theorem a185_1 : Ax.call (ground.env sp3) 100000 185 e185_1.1 = some e185_1.2 := by kernel_rfl
theorem a185_7 : Ax.call (ground.env sp3) 100000 185 e185_7.1 = some e185_7.2 := by kernel_rfl
theorem a188_2 : Ax.call (ground.env sp5) 100000 188 e188_2.1 = some e188_2.2 := by kernel_rfl
theorem a188_6 : Ax.call (ground.env sp5) 100000 188 e188_6.1 = some e188_6.2 := by kernel_rfl
theorem a70_0 : Ax.call (ground.env sp11) 100000 70 e70_0.1 = some e70_0.2 := by kernel_rfl
theorem a46_0 : Ax.call (ground.env sp12) 100000 46 e46_0.1 = some e46_0.2 := by kernel_rfl
theorem a58_0 : Ax.call (ground.env sp16) 100000 58 e58_0.1 = some e58_0.2 := by kernel_rfl
theorem a111_1 : Ax.call (ground.env sp20) 100000 111 e111_1.1 = some e111_1.2 := by kernel_rfl
theorem a111_2 : Ax.call (ground.env sp20) 100000 111 e111_2.1 = some e111_2.2 := by kernel_rfl
theorem a79_0 : Ax.call (ground.env sp29) 100000 79 e79_0.1 = some e79_0.2 := by kernel_rfl
end Go.Proofs.YtmbhjdkbcgngiaaGreatDoor
end
