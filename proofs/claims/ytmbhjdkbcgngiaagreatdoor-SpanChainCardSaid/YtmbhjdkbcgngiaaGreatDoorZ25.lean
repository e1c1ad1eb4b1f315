/- AX: known answers, reckoned: printed by memotab.py. -/
import Derived.Test.YtmbhjdkbcgngiaaGreatDoorZ14
import Derived.KernelRfl
namespace Go.Proofs.YtmbhjdkbcgngiaaGreatDoor
open Go Go.Ax
theorem aS205_8 : Ax.call (ground.env spS1) 100000 205 eS205_8.1 = some eS205_8.2 := by kernel_rfl
theorem aS188_2 : Ax.call (ground.env spS5) 100000 188 eS188_2.1 = some eS188_2.2 := by kernel_rfl
theorem aS121_16 : Ax.call (ground.env spS6) 100000 121 eS121_16.1 = some eS121_16.2 := by kernel_rfl
theorem aS121_18 : Ax.call (ground.env spS6) 100000 121 eS121_18.1 = some eS121_18.2 := by kernel_rfl
theorem aS97_7 : Ax.call (ground.env spS7) 100000 97 eS97_7.1 = some eS97_7.2 := by kernel_rfl
theorem aS97_20 : Ax.call (ground.env spS7) 100000 97 eS97_20.1 = some eS97_20.2 := by kernel_rfl
theorem aS98_12 : Ax.call (ground.env spS9) 100000 98 eS98_12.1 = some eS98_12.2 := by kernel_rfl
theorem aS98_17 : Ax.call (ground.env spS9) 100000 98 eS98_17.1 = some eS98_17.2 := by kernel_rfl
theorem aS57_2 : Ax.call (ground.env spS10) 100000 57 eS57_2.1 = some eS57_2.2 := by kernel_rfl
theorem aS57_22 : Ax.call (ground.env spS10) 100000 57 eS57_22.1 = some eS57_22.2 := by kernel_rfl
theorem aS57_25 : Ax.call (ground.env spS10) 100000 57 eS57_25.1 = some eS57_25.2 := by kernel_rfl
theorem aS70_19 : Ax.call (ground.env spS11) 100000 70 eS70_19.1 = some eS70_19.2 := by kernel_rfl
theorem aS46_8 : Ax.call (ground.env spS12) 100000 46 eS46_8.1 = some eS46_8.2 := by kernel_rfl
theorem aS46_25 : Ax.call (ground.env spS12) 100000 46 eS46_25.1 = some eS46_25.2 := by kernel_rfl
theorem aS73_5 : Ax.call (ground.env spS13) 100000 73 eS73_5.1 = some eS73_5.2 := by kernel_rfl
theorem aS73_25 : Ax.call (ground.env spS13) 100000 73 eS73_25.1 = some eS73_25.2 := by kernel_rfl
theorem aS63_14 : Ax.call (ground.env spS16) 100000 63 eS63_14.1 = some eS63_14.2 := by kernel_rfl
theorem aS63_28 : Ax.call (ground.env spS16) 100000 63 eS63_28.1 = some eS63_28.2 := by kernel_rfl
theorem aS63_71 : Ax.call (ground.env spS16) 100000 63 eS63_71.1 = some eS63_71.2 := by kernel_rfl
theorem aS63_102 : Ax.call (ground.env spS16) 100000 63 eS63_102.1 = some eS63_102.2 := by kernel_rfl
theorem aS63_119 : Ax.call (ground.env spS16) 100000 63 eS63_119.1 = some eS63_119.2 := by kernel_rfl
theorem aS63_132 : Ax.call (ground.env spS16) 100000 63 eS63_132.1 = some eS63_132.2 := by kernel_rfl
theorem aS63_167 : Ax.call (ground.env spS16) 100000 63 eS63_167.1 = some eS63_167.2 := by kernel_rfl
end Go.Proofs.YtmbhjdkbcgngiaaGreatDoor
