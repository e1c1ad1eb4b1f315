/- AX: known answers, reckoned: printed by memotab.py. -/
import Derived.Test.YtmbhjdkbcgngiaaGreatDoorZ14
import Derived.KernelRfl
namespace Go.Proofs.YtmbhjdkbcgngiaaGreatDoor
open Go Go.Ax
theorem aS188_4 : Ax.call (ground.env spS5) 100000 188 eS188_4.1 = some eS188_4.2 := by kernel_rfl
theorem aS188_10 : Ax.call (ground.env spS5) 100000 188 eS188_10.1 = some eS188_10.2 := by kernel_rfl
theorem aS188_17 : Ax.call (ground.env spS5) 100000 188 eS188_17.1 = some eS188_17.2 := by kernel_rfl
theorem aS121_12 : Ax.call (ground.env spS6) 100000 121 eS121_12.1 = some eS121_12.2 := by kernel_rfl
theorem aS121_13 : Ax.call (ground.env spS6) 100000 121 eS121_13.1 = some eS121_13.2 := by kernel_rfl
theorem aS121_24 : Ax.call (ground.env spS6) 100000 121 eS121_24.1 = some eS121_24.2 := by kernel_rfl
theorem aS97_4 : Ax.call (ground.env spS7) 100000 97 eS97_4.1 = some eS97_4.2 := by kernel_rfl
theorem aS97_19 : Ax.call (ground.env spS7) 100000 97 eS97_19.1 = some eS97_19.2 := by kernel_rfl
theorem aS97_21 : Ax.call (ground.env spS7) 100000 97 eS97_21.1 = some eS97_21.2 := by kernel_rfl
theorem aS130_16 : Ax.call (ground.env spS8) 100000 130 eS130_16.1 = some eS130_16.2 := by kernel_rfl
theorem aS98_3 : Ax.call (ground.env spS9) 100000 98 eS98_3.1 = some eS98_3.2 := by kernel_rfl
theorem aS57_27 : Ax.call (ground.env spS10) 100000 57 eS57_27.1 = some eS57_27.2 := by kernel_rfl
theorem aS70_27 : Ax.call (ground.env spS11) 100000 70 eS70_27.1 = some eS70_27.2 := by kernel_rfl
theorem aS46_20 : Ax.call (ground.env spS12) 100000 46 eS46_20.1 = some eS46_20.2 := by kernel_rfl
theorem aS42_20 : Ax.call (ground.env spS14) 100000 42 eS42_20.1 = some eS42_20.2 := by kernel_rfl
theorem aS58_19 : Ax.call (ground.env spS15) 100000 58 eS58_19.1 = some eS58_19.2 := by kernel_rfl
theorem aS58_27 : Ax.call (ground.env spS15) 100000 58 eS58_27.1 = some eS58_27.2 := by kernel_rfl
theorem aS63_0 : Ax.call (ground.env spS16) 100000 63 eS63_0.1 = some eS63_0.2 := by kernel_rfl
theorem aS63_8 : Ax.call (ground.env spS16) 100000 63 eS63_8.1 = some eS63_8.2 := by kernel_rfl
theorem aS63_19 : Ax.call (ground.env spS16) 100000 63 eS63_19.1 = some eS63_19.2 := by kernel_rfl
theorem aS63_34 : Ax.call (ground.env spS16) 100000 63 eS63_34.1 = some eS63_34.2 := by kernel_rfl
theorem aS63_48 : Ax.call (ground.env spS16) 100000 63 eS63_48.1 = some eS63_48.2 := by kernel_rfl
theorem aS63_91 : Ax.call (ground.env spS16) 100000 63 eS63_91.1 = some eS63_91.2 := by kernel_rfl
theorem aS63_149 : Ax.call (ground.env spS16) 100000 63 eS63_149.1 = some eS63_149.2 := by kernel_rfl
end Go.Proofs.YtmbhjdkbcgngiaaGreatDoor
