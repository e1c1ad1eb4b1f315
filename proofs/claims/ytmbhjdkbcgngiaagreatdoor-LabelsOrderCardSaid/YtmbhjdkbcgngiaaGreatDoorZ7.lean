/- AX: known answers, reckoned: printed by memotab.py. -/
/- AX: known answers, reckoned: printed by memotab.py. -/
import Derived.Test.YtmbhjdkbcgngiaaGreatDoorZ4
import Derived.KernelRfl
section
namespace Go.Proofs.YtmbhjdkbcgngiaaGreatDoor
open Go Go.Ax
theorem a232_2 : Ax.call (ground.env sp0) 100000 232 e232_2.1 = some e232_2.2 := by kernel_rfl
theorem a205_2 : Ax.call (ground.env sp1) 100000 205 e205_2.1 = some e205_2.2 := by kernel_rfl
theorem a205_9 : Ax.call (ground.env sp1) 100000 205 e205_9.1 = some e205_9.2 := by kernel_rfl
theorem a172_1 : Ax.call (ground.env sp2) 100000 172 e172_1.1 = some e172_1.2 := by kernel_rfl
theorem a172_6 : Ax.call (ground.env sp2) 100000 172 e172_6.1 = some e172_6.2 := by kernel_rfl
theorem a185_5 : Ax.call (ground.env sp3) 100000 185 e185_5.1 = some e185_5.2 := by kernel_rfl
theorem a188_1 : Ax.call (ground.env sp5) 100000 188 e188_1.1 = some e188_1.2 := by kernel_rfl
theorem a188_5 : Ax.call (ground.env sp5) 100000 188 e188_5.1 = some e188_5.2 := by kernel_rfl
theorem a121_2 : Ax.call (ground.env sp6) 100000 121 e121_2.1 = some e121_2.2 := by kernel_rfl
theorem a97_0 : Ax.call (ground.env sp7) 100000 97 e97_0.1 = some e97_0.2 := by kernel_rfl
theorem a130_2 : Ax.call (ground.env sp8) 100000 130 e130_2.1 = some e130_2.2 := by kernel_rfl
theorem a98_1 : Ax.call (ground.env sp9) 100000 98 e98_1.1 = some e98_1.2 := by kernel_rfl
theorem a42_0 : Ax.call (ground.env sp14) 100000 42 e42_0.1 = some e42_0.2 := by kernel_rfl
theorem a87_0 : Ax.call (ground.env sp27) 100000 87 e87_0.1 = some e87_0.2 := by kernel_rfl
theorem a72_4 : Ax.call (ground.env sp28) 100000 72 e72_4.1 = some e72_4.2 := by kernel_rfl
end Go.Proofs.YtmbhjdkbcgngiaaGreatDoor
end
section
namespace Go.Proofs.YtmbhjdkbcgngiaaGreatDoor
open Go Go.Ax
theorem a232_7 : Ax.call (ground.env sp0) 100000 232 e232_7.1 = some e232_7.2 := by kernel_rfl
theorem a205_4 : Ax.call (ground.env sp1) 100000 205 e205_4.1 = some e205_4.2 := by kernel_rfl
theorem a205_10 : Ax.call (ground.env sp1) 100000 205 e205_10.1 = some e205_10.2 := by kernel_rfl
theorem a172_3 : Ax.call (ground.env sp2) 100000 172 e172_3.1 = some e172_3.2 := by kernel_rfl
theorem a172_8 : Ax.call (ground.env sp2) 100000 172 e172_8.1 = some e172_8.2 := by kernel_rfl
theorem a172_10 : Ax.call (ground.env sp2) 100000 172 e172_10.1 = some e172_10.2 := by kernel_rfl
theorem a172_13 : Ax.call (ground.env sp2) 100000 172 e172_13.1 = some e172_13.2 := by kernel_rfl
theorem a188_8 : Ax.call (ground.env sp5) 100000 188 e188_8.1 = some e188_8.2 := by kernel_rfl
theorem a97_1 : Ax.call (ground.env sp7) 100000 97 e97_1.1 = some e97_1.2 := by kernel_rfl
theorem a130_1 : Ax.call (ground.env sp8) 100000 130 e130_1.1 = some e130_1.2 := by kernel_rfl
theorem a47_0 : Ax.call (ground.env sp15) 100000 47 e47_0.1 = some e47_0.2 := by kernel_rfl
theorem a175_2 : Ax.call (ground.env sp22) 100000 175 e175_2.1 = some e175_2.2 := by kernel_rfl
theorem a176_1 : Ax.call (ground.env sp23) 100000 176 e176_1.1 = some e176_1.2 := by kernel_rfl
theorem a147_0 : Ax.call (ground.env sp26) 100000 147 e147_0.1 = some e147_0.2 := by kernel_rfl
theorem a72_1 : Ax.call (ground.env sp28) 100000 72 e72_1.1 = some e72_1.2 := by kernel_rfl
end Go.Proofs.YtmbhjdkbcgngiaaGreatDoor
end
