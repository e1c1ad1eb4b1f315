/- AX: known answers, reckoned: printed by memotab.py. -/
/- AX: known answers, reckoned: printed by memotab.py. -/
import Derived.Test.YtmbhjdkbcgngiaaGreatDoorZ4
import Derived.KernelRfl
section
namespace Go.Proofs.YtmbhjdkbcgngiaaGreatDoor
open Go Go.Ax
theorem a232_0 : Ax.call (ground.env sp0) 100000 232 e232_0.1 = some e232_0.2 := by kernel_rfl
theorem a232_9 : Ax.call (ground.env sp0) 100000 232 e232_9.1 = some e232_9.2 := by kernel_rfl
theorem a205_4 : Ax.call (ground.env sp1) 100000 205 e205_4.1 = some e205_4.2 := by kernel_rfl
theorem a172_3 : Ax.call (ground.env sp2) 100000 172 e172_3.1 = some e172_3.2 := by kernel_rfl
theorem a172_10 : Ax.call (ground.env sp2) 100000 172 e172_10.1 = some e172_10.2 := by kernel_rfl
theorem a122_1 : Ax.call (ground.env sp4) 100000 122 e122_1.1 = some e122_1.2 := by kernel_rfl
theorem a122_6 : Ax.call (ground.env sp4) 100000 122 e122_6.1 = some e122_6.2 := by kernel_rfl
theorem a188_8 : Ax.call (ground.env sp5) 100000 188 e188_8.1 = some e188_8.2 := by kernel_rfl
theorem a97_2 : Ax.call (ground.env sp7) 100000 97 e97_2.1 = some e97_2.2 := by kernel_rfl
theorem a175_0 : Ax.call (ground.env sp22) 100000 175 e175_0.1 = some e175_0.2 := by kernel_rfl
theorem a175_2 : Ax.call (ground.env sp22) 100000 175 e175_2.1 = some e175_2.2 := by kernel_rfl
theorem a87_0 : Ax.call (ground.env sp27) 100000 87 e87_0.1 = some e87_0.2 := by kernel_rfl
theorem a72_1 : Ax.call (ground.env sp28) 100000 72 e72_1.1 = some e72_1.2 := by kernel_rfl
end Go.Proofs.YtmbhjdkbcgngiaaGreatDoor
end
section
namespace Go.Proofs.YtmbhjdkbcgngiaaGreatDoor
open Go Go.Ax
theorem a232_4 : Ax.call (ground.env sp0) 100000 232 e232_4.1 = some e232_4.2 := by kernel_rfl
theorem a205_0 : Ax.call (ground.env sp1) 100000 205 e205_0.1 = some e205_0.2 := by kernel_rfl
theorem a205_9 : Ax.call (ground.env sp1) 100000 205 e205_9.1 = some e205_9.2 := by kernel_rfl
theorem a172_0 : Ax.call (ground.env sp2) 100000 172 e172_0.1 = some e172_0.2 := by kernel_rfl
theorem a172_12 : Ax.call (ground.env sp2) 100000 172 e172_12.1 = some e172_12.2 := by kernel_rfl
theorem a185_0 : Ax.call (ground.env sp3) 100000 185 e185_0.1 = some e185_0.2 := by kernel_rfl
theorem a185_6 : Ax.call (ground.env sp3) 100000 185 e185_6.1 = some e185_6.2 := by kernel_rfl
theorem a188_1 : Ax.call (ground.env sp5) 100000 188 e188_1.1 = some e188_1.2 := by kernel_rfl
theorem a130_1 : Ax.call (ground.env sp8) 100000 130 e130_1.1 = some e130_1.2 := by kernel_rfl
theorem a73_0 : Ax.call (ground.env sp13) 100000 73 e73_0.1 = some e73_0.2 := by kernel_rfl
theorem a176_1 : Ax.call (ground.env sp23) 100000 176 e176_1.1 = some e176_1.2 := by kernel_rfl
theorem a147_0 : Ax.call (ground.env sp26) 100000 147 e147_0.1 = some e147_0.2 := by kernel_rfl
theorem a72_0 : Ax.call (ground.env sp28) 100000 72 e72_0.1 = some e72_0.2 := by kernel_rfl
theorem a72_2 : Ax.call (ground.env sp28) 100000 72 e72_2.1 = some e72_2.2 := by kernel_rfl
end Go.Proofs.YtmbhjdkbcgngiaaGreatDoor
end
