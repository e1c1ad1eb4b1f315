/- AX: known answers, reckoned: printed by memotab.py. -/
/- AX: known answers, reckoned: printed by memotab.py. -/
import Derived.Test.YtmbhjdkbcgngiaaGreatDoorZ4
import Derived.KernelRfl
section
namespace Go.Proofs.YtmbhjdkbcgngiaaGreatDoor
open Go Go.Ax
theorem a232_5 : Ax.call (ground.env sp0) 100000 232 e232_5.1 = some e232_5.2 := by kernel_rfl
theorem a172_0 : Ax.call (ground.env sp2) 100000 172 e172_0.1 = some e172_0.2 := by kernel_rfl
theorem a185_2 : Ax.call (ground.env sp3) 100000 185 e185_2.1 = some e185_2.2 := by kernel_rfl
theorem a185_8 : Ax.call (ground.env sp3) 100000 185 e185_8.1 = some e185_8.2 := by kernel_rfl
theorem a122_1 : Ax.call (ground.env sp4) 100000 122 e122_1.1 = some e122_1.2 := by kernel_rfl
theorem a122_6 : Ax.call (ground.env sp4) 100000 122 e122_6.1 = some e122_6.2 := by kernel_rfl
theorem a188_3 : Ax.call (ground.env sp5) 100000 188 e188_3.1 = some e188_3.2 := by kernel_rfl
theorem a188_7 : Ax.call (ground.env sp5) 100000 188 e188_7.1 = some e188_7.2 := by kernel_rfl
theorem a121_4 : Ax.call (ground.env sp6) 100000 121 e121_4.1 = some e121_4.2 := by kernel_rfl
theorem a57_0 : Ax.call (ground.env sp10) 100000 57 e57_0.1 = some e57_0.2 := by kernel_rfl
theorem a111_1 : Ax.call (ground.env sp20) 100000 111 e111_1.1 = some e111_1.2 := by kernel_rfl
theorem a111_2 : Ax.call (ground.env sp20) 100000 111 e111_2.1 = some e111_2.2 := by kernel_rfl
theorem a176_0 : Ax.call (ground.env sp23) 100000 176 e176_0.1 = some e176_0.2 := by kernel_rfl
theorem a72_0 : Ax.call (ground.env sp28) 100000 72 e72_0.1 = some e72_0.2 := by kernel_rfl
theorem a72_3 : Ax.call (ground.env sp28) 100000 72 e72_3.1 = some e72_3.2 := by kernel_rfl
end Go.Proofs.YtmbhjdkbcgngiaaGreatDoor
end
section
namespace Go.Proofs.YtmbhjdkbcgngiaaGreatDoor
open Go Go.Ax
theorem a232_0 : Ax.call (ground.env sp0) 100000 232 e232_0.1 = some e232_0.2 := by kernel_rfl
theorem a232_8 : Ax.call (ground.env sp0) 100000 232 e232_8.1 = some e232_8.2 := by kernel_rfl
theorem a205_5 : Ax.call (ground.env sp1) 100000 205 e205_5.1 = some e205_5.2 := by kernel_rfl
theorem a172_4 : Ax.call (ground.env sp2) 100000 172 e172_4.1 = some e172_4.2 := by kernel_rfl
theorem a122_2 : Ax.call (ground.env sp4) 100000 122 e122_2.1 = some e122_2.2 := by kernel_rfl
theorem a188_9 : Ax.call (ground.env sp5) 100000 188 e188_9.1 = some e188_9.2 := by kernel_rfl
theorem a121_0 : Ax.call (ground.env sp6) 100000 121 e121_0.1 = some e121_0.2 := by kernel_rfl
theorem a121_3 : Ax.call (ground.env sp6) 100000 121 e121_3.1 = some e121_3.2 := by kernel_rfl
theorem a57_1 : Ax.call (ground.env sp10) 100000 57 e57_1.1 = some e57_1.2 := by kernel_rfl
theorem a70_1 : Ax.call (ground.env sp11) 100000 70 e70_1.1 = some e70_1.2 := by kernel_rfl
theorem a63_0 : Ax.call (ground.env sp17) 100000 63 e63_0.1 = some e63_0.2 := by kernel_rfl
theorem a111_0 : Ax.call (ground.env sp20) 100000 111 e111_0.1 = some e111_0.2 := by kernel_rfl
theorem a179_0 : Ax.call (ground.env sp24) 100000 179 e179_0.1 = some e179_0.2 := by kernel_rfl
theorem a79_0 : Ax.call (ground.env sp29) 100000 79 e79_0.1 = some e79_0.2 := by kernel_rfl
end Go.Proofs.YtmbhjdkbcgngiaaGreatDoor
end
