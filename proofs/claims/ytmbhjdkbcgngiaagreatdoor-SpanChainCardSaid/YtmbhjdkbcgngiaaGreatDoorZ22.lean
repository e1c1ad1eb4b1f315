/- AX: known answers, reckoned: printed by memotab.py. -/
import Derived.Test.YtmbhjdkbcgngiaaGreatDoorZ14
import Derived.KernelRfl
namespace Go.Proofs.YtmbhjdkbcgngiaaGreatDoor
open Go Go.Ax
theorem aS205_4 : Ax.call (ground.env spS1) 100000 205 eS205_4.1 = some eS205_4.2 := by kernel_rfl
theorem aS185_5 : Ax.call (ground.env spS3) 100000 185 eS185_5.1 = some eS185_5.2 := by kernel_rfl
theorem aS188_14 : Ax.call (ground.env spS5) 100000 188 eS188_14.1 = some eS188_14.2 := by kernel_rfl
theorem aS188_22 : Ax.call (ground.env spS5) 100000 188 eS188_22.1 = some eS188_22.2 := by kernel_rfl
theorem aS121_2 : Ax.call (ground.env spS6) 100000 121 eS121_2.1 = some eS121_2.2 := by kernel_rfl
theorem aS97_13 : Ax.call (ground.env spS7) 100000 97 eS97_13.1 = some eS97_13.2 := by kernel_rfl
theorem aS130_25 : Ax.call (ground.env spS8) 100000 130 eS130_25.1 = some eS130_25.2 := by kernel_rfl
theorem aS98_1 : Ax.call (ground.env spS9) 100000 98 eS98_1.1 = some eS98_1.2 := by kernel_rfl
theorem aS98_2 : Ax.call (ground.env spS9) 100000 98 eS98_2.1 = some eS98_2.2 := by kernel_rfl
theorem aS98_6 : Ax.call (ground.env spS9) 100000 98 eS98_6.1 = some eS98_6.2 := by kernel_rfl
theorem aS98_15 : Ax.call (ground.env spS9) 100000 98 eS98_15.1 = some eS98_15.2 := by kernel_rfl
theorem aS70_22 : Ax.call (ground.env spS11) 100000 70 eS70_22.1 = some eS70_22.2 := by kernel_rfl
theorem aS46_14 : Ax.call (ground.env spS12) 100000 46 eS46_14.1 = some eS46_14.2 := by kernel_rfl
theorem aS73_16 : Ax.call (ground.env spS13) 100000 73 eS73_16.1 = some eS73_16.2 := by kernel_rfl
theorem aS58_0 : Ax.call (ground.env spS15) 100000 58 eS58_0.1 = some eS58_0.2 := by kernel_rfl
theorem aS58_16 : Ax.call (ground.env spS15) 100000 58 eS58_16.1 = some eS58_16.2 := by kernel_rfl
theorem aS63_3 : Ax.call (ground.env spS16) 100000 63 eS63_3.1 = some eS63_3.2 := by kernel_rfl
theorem aS63_20 : Ax.call (ground.env spS16) 100000 63 eS63_20.1 = some eS63_20.2 := by kernel_rfl
theorem aS63_36 : Ax.call (ground.env spS16) 100000 63 eS63_36.1 = some eS63_36.2 := by kernel_rfl
theorem aS63_62 : Ax.call (ground.env spS16) 100000 63 eS63_62.1 = some eS63_62.2 := by kernel_rfl
theorem aS63_113 : Ax.call (ground.env spS16) 100000 63 eS63_113.1 = some eS63_113.2 := by kernel_rfl
theorem aS63_127 : Ax.call (ground.env spS16) 100000 63 eS63_127.1 = some eS63_127.2 := by kernel_rfl
theorem aS63_143 : Ax.call (ground.env spS16) 100000 63 eS63_143.1 = some eS63_143.2 := by kernel_rfl
theorem aS24_9 : Ax.call (ground.env spS17) 100000 24 eS24_9.1 = some eS24_9.2 := by kernel_rfl
end Go.Proofs.YtmbhjdkbcgngiaaGreatDoor
