/- AX: known answers, reckoned: printed by memotab.py. -/
import Derived.Test.YtmbhjdkbcgngiaaGreatDoorZ14
import Derived.KernelRfl
namespace Go.Proofs.YtmbhjdkbcgngiaaGreatDoor
open Go Go.Ax
theorem aS205_6 : Ax.call (ground.env spS1) 100000 205 eS205_6.1 = some eS205_6.2 := by kernel_rfl
theorem aS188_7 : Ax.call (ground.env spS5) 100000 188 eS188_7.1 = some eS188_7.2 := by kernel_rfl
theorem aS121_10 : Ax.call (ground.env spS6) 100000 121 eS121_10.1 = some eS121_10.2 := by kernel_rfl
theorem aS121_27 : Ax.call (ground.env spS6) 100000 121 eS121_27.1 = some eS121_27.2 := by kernel_rfl
theorem aS97_3 : Ax.call (ground.env spS7) 100000 97 eS97_3.1 = some eS97_3.2 := by kernel_rfl
theorem aS97_11 : Ax.call (ground.env spS7) 100000 97 eS97_11.1 = some eS97_11.2 := by kernel_rfl
theorem aS130_1 : Ax.call (ground.env spS8) 100000 130 eS130_1.1 = some eS130_1.2 := by kernel_rfl
theorem aS57_0 : Ax.call (ground.env spS10) 100000 57 eS57_0.1 = some eS57_0.2 := by kernel_rfl
theorem aS70_26 : Ax.call (ground.env spS11) 100000 70 eS70_26.1 = some eS70_26.2 := by kernel_rfl
theorem aS46_13 : Ax.call (ground.env spS12) 100000 46 eS46_13.1 = some eS46_13.2 := by kernel_rfl
theorem aS73_7 : Ax.call (ground.env spS13) 100000 73 eS73_7.1 = some eS73_7.2 := by kernel_rfl
theorem aS73_21 : Ax.call (ground.env spS13) 100000 73 eS73_21.1 = some eS73_21.2 := by kernel_rfl
theorem aS73_22 : Ax.call (ground.env spS13) 100000 73 eS73_22.1 = some eS73_22.2 := by kernel_rfl
theorem aS42_21 : Ax.call (ground.env spS14) 100000 42 eS42_21.1 = some eS42_21.2 := by kernel_rfl
theorem aS58_2 : Ax.call (ground.env spS15) 100000 58 eS58_2.1 = some eS58_2.2 := by kernel_rfl
theorem aS63_38 : Ax.call (ground.env spS16) 100000 63 eS63_38.1 = some eS63_38.2 := by kernel_rfl
theorem aS63_40 : Ax.call (ground.env spS16) 100000 63 eS63_40.1 = some eS63_40.2 := by kernel_rfl
theorem aS63_55 : Ax.call (ground.env spS16) 100000 63 eS63_55.1 = some eS63_55.2 := by kernel_rfl
theorem aS63_69 : Ax.call (ground.env spS16) 100000 63 eS63_69.1 = some eS63_69.2 := by kernel_rfl
theorem aS63_106 : Ax.call (ground.env spS16) 100000 63 eS63_106.1 = some eS63_106.2 := by kernel_rfl
theorem aS63_115 : Ax.call (ground.env spS16) 100000 63 eS63_115.1 = some eS63_115.2 := by kernel_rfl
theorem aS63_133 : Ax.call (ground.env spS16) 100000 63 eS63_133.1 = some eS63_133.2 := by kernel_rfl
theorem aS24_6 : Ax.call (ground.env spS17) 100000 24 eS24_6.1 = some eS24_6.2 := by kernel_rfl
end Go.Proofs.YtmbhjdkbcgngiaaGreatDoor
