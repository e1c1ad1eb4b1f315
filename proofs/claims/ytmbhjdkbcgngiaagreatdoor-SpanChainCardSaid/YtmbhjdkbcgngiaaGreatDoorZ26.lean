/- AX: known answers, reckoned: printed by memotab.py. -/
import Derived.Test.YtmbhjdkbcgngiaaGreatDoorZ14
import Derived.KernelRfl
namespace Go.Proofs.YtmbhjdkbcgngiaaGreatDoor
open Go Go.Ax
theorem aS205_9 : Ax.call (ground.env spS1) 100000 205 eS205_9.1 = some eS205_9.2 := by kernel_rfl
theorem aS122_4 : Ax.call (ground.env spS4) 100000 122 eS122_4.1 = some eS122_4.2 := by kernel_rfl
theorem aS188_3 : Ax.call (ground.env spS5) 100000 188 eS188_3.1 = some eS188_3.2 := by kernel_rfl
theorem aS188_6 : Ax.call (ground.env spS5) 100000 188 eS188_6.1 = some eS188_6.2 := by kernel_rfl
theorem aS121_8 : Ax.call (ground.env spS6) 100000 121 eS121_8.1 = some eS121_8.2 := by kernel_rfl
theorem aS97_8 : Ax.call (ground.env spS7) 100000 97 eS97_8.1 = some eS97_8.2 := by kernel_rfl
theorem aS130_2 : Ax.call (ground.env spS8) 100000 130 eS130_2.1 = some eS130_2.2 := by kernel_rfl
theorem aS130_3 : Ax.call (ground.env spS8) 100000 130 eS130_3.1 = some eS130_3.2 := by kernel_rfl
theorem aS130_23 : Ax.call (ground.env spS8) 100000 130 eS130_23.1 = some eS130_23.2 := by kernel_rfl
theorem aS57_3 : Ax.call (ground.env spS10) 100000 57 eS57_3.1 = some eS57_3.2 := by kernel_rfl
theorem aS46_3 : Ax.call (ground.env spS12) 100000 46 eS46_3.1 = some eS46_3.2 := by kernel_rfl
theorem aS73_18 : Ax.call (ground.env spS13) 100000 73 eS73_18.1 = some eS73_18.2 := by kernel_rfl
theorem aS58_22 : Ax.call (ground.env spS15) 100000 58 eS58_22.1 = some eS58_22.2 := by kernel_rfl
theorem aS63_2 : Ax.call (ground.env spS16) 100000 63 eS63_2.1 = some eS63_2.2 := by kernel_rfl
theorem aS63_6 : Ax.call (ground.env spS16) 100000 63 eS63_6.1 = some eS63_6.2 := by kernel_rfl
theorem aS63_7 : Ax.call (ground.env spS16) 100000 63 eS63_7.1 = some eS63_7.2 := by kernel_rfl
theorem aS63_64 : Ax.call (ground.env spS16) 100000 63 eS63_64.1 = some eS63_64.2 := by kernel_rfl
theorem aS63_66 : Ax.call (ground.env spS16) 100000 63 eS63_66.1 = some eS63_66.2 := by kernel_rfl
theorem aS63_85 : Ax.call (ground.env spS16) 100000 63 eS63_85.1 = some eS63_85.2 := by kernel_rfl
theorem aS63_109 : Ax.call (ground.env spS16) 100000 63 eS63_109.1 = some eS63_109.2 := by kernel_rfl
theorem aS63_123 : Ax.call (ground.env spS16) 100000 63 eS63_123.1 = some eS63_123.2 := by kernel_rfl
theorem aS63_146 : Ax.call (ground.env spS16) 100000 63 eS63_146.1 = some eS63_146.2 := by kernel_rfl
theorem aS24_12 : Ax.call (ground.env spS17) 100000 24 eS24_12.1 = some eS24_12.2 := by kernel_rfl
end Go.Proofs.YtmbhjdkbcgngiaaGreatDoor
