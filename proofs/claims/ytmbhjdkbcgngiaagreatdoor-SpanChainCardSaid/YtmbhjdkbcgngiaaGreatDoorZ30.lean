/- AX: known answers, reckoned: printed by memotab.py. -/
import Derived.Test.YtmbhjdkbcgngiaaGreatDoorZ14
import Derived.KernelRfl
namespace Go.Proofs.YtmbhjdkbcgngiaaGreatDoor
open Go Go.Ax
theorem aS232_8 : Ax.call (ground.env spS0) 100000 232 eS232_8.1 = some eS232_8.2 := by kernel_rfl
theorem aS205_13 : Ax.call (ground.env spS1) 100000 205 eS205_13.1 = some eS205_13.2 := by kernel_rfl
theorem aS172_8 : Ax.call (ground.env spS2) 100000 172 eS172_8.1 = some eS172_8.2 := by kernel_rfl
theorem aS172_14 : Ax.call (ground.env spS2) 100000 172 eS172_14.1 = some eS172_14.2 := by kernel_rfl
theorem aS122_6 : Ax.call (ground.env spS4) 100000 122 eS122_6.1 = some eS122_6.2 := by kernel_rfl
theorem aS121_6 : Ax.call (ground.env spS6) 100000 121 eS121_6.1 = some eS121_6.2 := by kernel_rfl
theorem aS121_15 : Ax.call (ground.env spS6) 100000 121 eS121_15.1 = some eS121_15.2 := by kernel_rfl
theorem aS97_14 : Ax.call (ground.env spS7) 100000 97 eS97_14.1 = some eS97_14.2 := by kernel_rfl
theorem aS70_9 : Ax.call (ground.env spS11) 100000 70 eS70_9.1 = some eS70_9.2 := by kernel_rfl
theorem aS46_1 : Ax.call (ground.env spS12) 100000 46 eS46_1.1 = some eS46_1.2 := by kernel_rfl
theorem aS46_10 : Ax.call (ground.env spS12) 100000 46 eS46_10.1 = some eS46_10.2 := by kernel_rfl
theorem aS42_16 : Ax.call (ground.env spS14) 100000 42 eS42_16.1 = some eS42_16.2 := by kernel_rfl
theorem aS42_27 : Ax.call (ground.env spS14) 100000 42 eS42_27.1 = some eS42_27.2 := by kernel_rfl
theorem aS58_4 : Ax.call (ground.env spS15) 100000 58 eS58_4.1 = some eS58_4.2 := by kernel_rfl
theorem aS58_10 : Ax.call (ground.env spS15) 100000 58 eS58_10.1 = some eS58_10.2 := by kernel_rfl
theorem aS63_58 : Ax.call (ground.env spS16) 100000 63 eS63_58.1 = some eS63_58.2 := by kernel_rfl
theorem aS63_70 : Ax.call (ground.env spS16) 100000 63 eS63_70.1 = some eS63_70.2 := by kernel_rfl
theorem aS63_79 : Ax.call (ground.env spS16) 100000 63 eS63_79.1 = some eS63_79.2 := by kernel_rfl
theorem aS63_80 : Ax.call (ground.env spS16) 100000 63 eS63_80.1 = some eS63_80.2 := by kernel_rfl
theorem aS63_92 : Ax.call (ground.env spS16) 100000 63 eS63_92.1 = some eS63_92.2 := by kernel_rfl
theorem aS63_136 : Ax.call (ground.env spS16) 100000 63 eS63_136.1 = some eS63_136.2 := by kernel_rfl
theorem aS63_147 : Ax.call (ground.env spS16) 100000 63 eS63_147.1 = some eS63_147.2 := by kernel_rfl
theorem aS63_157 : Ax.call (ground.env spS16) 100000 63 eS63_157.1 = some eS63_157.2 := by kernel_rfl
end Go.Proofs.YtmbhjdkbcgngiaaGreatDoor
