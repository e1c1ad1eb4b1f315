/- AX: known answers, reckoned: printed by memotab.py. -/
/- AX: known answers, reckoned: printed by memotab.py. -/
import Derived.Test.YtmbhjdkbcgngiaaGreatDoorZ4
import Derived.KernelRfl
section
namespace Go.Proofs.YtmbhjdkbcgngiaaGreatDoor
open Go Go.Ax
theorem a232_8 : Ax.call (ground.env sp0) 100000 232 e232_8.1 = some e232_8.2 := by kernel_rfl
theorem a205_3 : Ax.call (ground.env sp1) 100000 205 e205_3.1 = some e205_3.2 := by kernel_rfl
theorem a205_10 : Ax.call (ground.env sp1) 100000 205 e205_10.1 = some e205_10.2 := by kernel_rfl
theorem a172_2 : Ax.call (ground.env sp2) 100000 172 e172_2.1 = some e172_2.2 := by kernel_rfl
theorem a172_13 : Ax.call (ground.env sp2) 100000 172 e172_13.1 = some e172_13.2 := by kernel_rfl
theorem a122_3 : Ax.call (ground.env sp4) 100000 122 e122_3.1 = some e122_3.2 := by kernel_rfl
theorem a188_4 : Ax.call (ground.env sp5) 100000 188 e188_4.1 = some e188_4.2 := by kernel_rfl
theorem a188_7 : Ax.call (ground.env sp5) 100000 188 e188_7.1 = some e188_7.2 := by kernel_rfl
theorem a121_4 : Ax.call (ground.env sp6) 100000 121 e121_4.1 = some e121_4.2 := by kernel_rfl
theorem a130_2 : Ax.call (ground.env sp8) 100000 130 e130_2.1 = some e130_2.2 := by kernel_rfl
theorem a50_0 : Ax.call (ground.env sp18) 100000 50 e50_0.1 = some e50_0.2 := by kernel_rfl
theorem a114_0 : Ax.call (ground.env sp21) 100000 114 e114_0.1 = some e114_0.2 := by kernel_rfl
theorem a176_0 : Ax.call (ground.env sp23) 100000 176 e176_0.1 = some e176_0.2 := by kernel_rfl
theorem a72_4 : Ax.call (ground.env sp28) 100000 72 e72_4.1 = some e72_4.2 := by kernel_rfl
end Go.Proofs.YtmbhjdkbcgngiaaGreatDoor
end
section
namespace Go.Proofs.YtmbhjdkbcgngiaaGreatDoor
open Go Go.Ax
theorem a232_7 : Ax.call (ground.env sp0) 100000 232 e232_7.1 = some e232_7.2 := by kernel_rfl
theorem a205_2 : Ax.call (ground.env sp1) 100000 205 e205_2.1 = some e205_2.2 := by kernel_rfl
theorem a205_8 : Ax.call (ground.env sp1) 100000 205 e205_8.1 = some e205_8.2 := by kernel_rfl
theorem a172_7 : Ax.call (ground.env sp2) 100000 172 e172_7.1 = some e172_7.2 := by kernel_rfl
theorem a172_9 : Ax.call (ground.env sp2) 100000 172 e172_9.1 = some e172_9.2 := by kernel_rfl
theorem a185_3 : Ax.call (ground.env sp3) 100000 185 e185_3.1 = some e185_3.2 := by kernel_rfl
theorem a122_5 : Ax.call (ground.env sp4) 100000 122 e122_5.1 = some e122_5.2 := by kernel_rfl
theorem a188_3 : Ax.call (ground.env sp5) 100000 188 e188_3.1 = some e188_3.2 := by kernel_rfl
theorem a121_2 : Ax.call (ground.env sp6) 100000 121 e121_2.1 = some e121_2.2 := by kernel_rfl
theorem a97_0 : Ax.call (ground.env sp7) 100000 97 e97_0.1 = some e97_0.2 := by kernel_rfl
theorem a70_2 : Ax.call (ground.env sp11) 100000 70 e70_2.1 = some e70_2.2 := by kernel_rfl
theorem a47_0 : Ax.call (ground.env sp15) 100000 47 e47_0.1 = some e47_0.2 := by kernel_rfl
theorem a63_0 : Ax.call (ground.env sp17) 100000 63 e63_0.1 = some e63_0.2 := by kernel_rfl
theorem a111_0 : Ax.call (ground.env sp20) 100000 111 e111_0.1 = some e111_0.2 := by kernel_rfl
theorem a179_0 : Ax.call (ground.env sp24) 100000 179 e179_0.1 = some e179_0.2 := by kernel_rfl
end Go.Proofs.YtmbhjdkbcgngiaaGreatDoor
end
