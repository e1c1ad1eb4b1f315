/- AX: known answers, reckoned: printed by memotab.py. -/
import Derived.Test.YtmbhjdkbcgngiaaGreatDoorZ4
import Derived.KernelRfl
namespace Go.Proofs.YtmbhjdkbcgngiaaGreatDoor
open Go Go.Ax
theorem a232_3 : Ax.call (ground.env sp0) 100000 232 e232_3.1 = some e232_3.2 := by kernel_rfl
theorem a205_5 : Ax.call (ground.env sp1) 100000 205 e205_5.1 = some e205_5.2 := by kernel_rfl
theorem a172_4 : Ax.call (ground.env sp2) 100000 172 e172_4.1 = some e172_4.2 := by kernel_rfl
theorem a172_11 : Ax.call (ground.env sp2) 100000 172 e172_11.1 = some e172_11.2 := by kernel_rfl
theorem a185_5 : Ax.call (ground.env sp3) 100000 185 e185_5.1 = some e185_5.2 := by kernel_rfl
theorem a122_2 : Ax.call (ground.env sp4) 100000 122 e122_2.1 = some e122_2.2 := by kernel_rfl
theorem a188_5 : Ax.call (ground.env sp5) 100000 188 e188_5.1 = some e188_5.2 := by kernel_rfl
theorem a121_1 : Ax.call (ground.env sp6) 100000 121 e121_1.1 = some e121_1.2 := by kernel_rfl
theorem a121_3 : Ax.call (ground.env sp6) 100000 121 e121_3.1 = some e121_3.2 := by kernel_rfl
theorem a97_1 : Ax.call (ground.env sp7) 100000 97 e97_1.1 = some e97_1.2 := by kernel_rfl
theorem a98_0 : Ax.call (ground.env sp9) 100000 98 e98_0.1 = some e98_0.2 := by kernel_rfl
theorem a57_1 : Ax.call (ground.env sp10) 100000 57 e57_1.1 = some e57_1.2 := by kernel_rfl
theorem a42_0 : Ax.call (ground.env sp14) 100000 42 e42_0.1 = some e42_0.2 := by kernel_rfl
theorem a72_3 : Ax.call (ground.env sp28) 100000 72 e72_3.1 = some e72_3.2 := by kernel_rfl
end Go.Proofs.YtmbhjdkbcgngiaaGreatDoor
