/- AX: known answers, reckoned: printed by memotab.py. -/
import Derived.Test.YtmbhjdkbcgngiaaGreatDoorZ14
import Derived.KernelRfl
namespace Go.Proofs.YtmbhjdkbcgngiaaGreatDoor
open Go Go.Ax
theorem aS232_1 : Ax.call (ground.env spS0) 100000 232 eS232_1.1 = some eS232_1.2 := by kernel_rfl
theorem aS205_3 : Ax.call (ground.env spS1) 100000 205 eS205_3.1 = some eS205_3.2 := by kernel_rfl
theorem aS205_12 : Ax.call (ground.env spS1) 100000 205 eS205_12.1 = some eS205_12.2 := by kernel_rfl
theorem aS122_1 : Ax.call (ground.env spS4) 100000 122 eS122_1.1 = some eS122_1.2 := by kernel_rfl
theorem aS121_9 : Ax.call (ground.env spS6) 100000 121 eS121_9.1 = some eS121_9.2 := by kernel_rfl
theorem aS97_1 : Ax.call (ground.env spS7) 100000 97 eS97_1.1 = some eS97_1.2 := by kernel_rfl
theorem aS97_10 : Ax.call (ground.env spS7) 100000 97 eS97_10.1 = some eS97_10.2 := by kernel_rfl
theorem aS130_10 : Ax.call (ground.env spS8) 100000 130 eS130_10.1 = some eS130_10.2 := by kernel_rfl
theorem aS98_27 : Ax.call (ground.env spS9) 100000 98 eS98_27.1 = some eS98_27.2 := by kernel_rfl
theorem aS57_4 : Ax.call (ground.env spS10) 100000 57 eS57_4.1 = some eS57_4.2 := by kernel_rfl
theorem aS57_14 : Ax.call (ground.env spS10) 100000 57 eS57_14.1 = some eS57_14.2 := by kernel_rfl
theorem aS46_2 : Ax.call (ground.env spS12) 100000 46 eS46_2.1 = some eS46_2.2 := by kernel_rfl
theorem aS46_22 : Ax.call (ground.env spS12) 100000 46 eS46_22.1 = some eS46_22.2 := by kernel_rfl
theorem aS73_2 : Ax.call (ground.env spS13) 100000 73 eS73_2.1 = some eS73_2.2 := by kernel_rfl
theorem aS58_12 : Ax.call (ground.env spS15) 100000 58 eS58_12.1 = some eS58_12.2 := by kernel_rfl
theorem aS58_18 : Ax.call (ground.env spS15) 100000 58 eS58_18.1 = some eS58_18.2 := by kernel_rfl
theorem aS63_41 : Ax.call (ground.env spS16) 100000 63 eS63_41.1 = some eS63_41.2 := by kernel_rfl
theorem aS63_50 : Ax.call (ground.env spS16) 100000 63 eS63_50.1 = some eS63_50.2 := by kernel_rfl
theorem aS63_74 : Ax.call (ground.env spS16) 100000 63 eS63_74.1 = some eS63_74.2 := by kernel_rfl
theorem aS63_155 : Ax.call (ground.env spS16) 100000 63 eS63_155.1 = some eS63_155.2 := by kernel_rfl
theorem aS63_160 : Ax.call (ground.env spS16) 100000 63 eS63_160.1 = some eS63_160.2 := by kernel_rfl
theorem aS24_1 : Ax.call (ground.env spS17) 100000 24 eS24_1.1 = some eS24_1.2 := by kernel_rfl
end Go.Proofs.YtmbhjdkbcgngiaaGreatDoor
