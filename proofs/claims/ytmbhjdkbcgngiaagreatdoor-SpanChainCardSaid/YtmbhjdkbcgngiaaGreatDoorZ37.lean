/- AX: known answers, reckoned: printed by memotab.py. -/
import Derived.Test.YtmbhjdkbcgngiaaGreatDoorZ14
import Derived.KernelRfl
namespace Go.Proofs.YtmbhjdkbcgngiaaGreatDoor
open Go Go.Ax
theorem aS185_0 : Ax.call (ground.env spS3) 100000 185 eS185_0.1 = some eS185_0.2 := by kernel_rfl
theorem aS185_8 : Ax.call (ground.env spS3) 100000 185 eS185_8.1 = some eS185_8.2 := by kernel_rfl
theorem aS185_13 : Ax.call (ground.env spS3) 100000 185 eS185_13.1 = some eS185_13.2 := by kernel_rfl
theorem aS121_7 : Ax.call (ground.env spS6) 100000 121 eS121_7.1 = some eS121_7.2 := by kernel_rfl
theorem aS130_21 : Ax.call (ground.env spS8) 100000 130 eS130_21.1 = some eS130_21.2 := by kernel_rfl
theorem aS130_27 : Ax.call (ground.env spS8) 100000 130 eS130_27.1 = some eS130_27.2 := by kernel_rfl
theorem aS98_21 : Ax.call (ground.env spS9) 100000 98 eS98_21.1 = some eS98_21.2 := by kernel_rfl
theorem aS57_6 : Ax.call (ground.env spS10) 100000 57 eS57_6.1 = some eS57_6.2 := by kernel_rfl
theorem aS57_17 : Ax.call (ground.env spS10) 100000 57 eS57_17.1 = some eS57_17.2 := by kernel_rfl
theorem aS70_18 : Ax.call (ground.env spS11) 100000 70 eS70_18.1 = some eS70_18.2 := by kernel_rfl
theorem aS70_25 : Ax.call (ground.env spS11) 100000 70 eS70_25.1 = some eS70_25.2 := by kernel_rfl
theorem aS46_12 : Ax.call (ground.env spS12) 100000 46 eS46_12.1 = some eS46_12.2 := by kernel_rfl
theorem aS42_0 : Ax.call (ground.env spS14) 100000 42 eS42_0.1 = some eS42_0.2 := by kernel_rfl
theorem aS42_26 : Ax.call (ground.env spS14) 100000 42 eS42_26.1 = some eS42_26.2 := by kernel_rfl
theorem aS58_14 : Ax.call (ground.env spS15) 100000 58 eS58_14.1 = some eS58_14.2 := by kernel_rfl
theorem aS63_5 : Ax.call (ground.env spS16) 100000 63 eS63_5.1 = some eS63_5.2 := by kernel_rfl
theorem aS63_11 : Ax.call (ground.env spS16) 100000 63 eS63_11.1 = some eS63_11.2 := by kernel_rfl
theorem aS63_29 : Ax.call (ground.env spS16) 100000 63 eS63_29.1 = some eS63_29.2 := by kernel_rfl
theorem aS63_52 : Ax.call (ground.env spS16) 100000 63 eS63_52.1 = some eS63_52.2 := by kernel_rfl
theorem aS63_76 : Ax.call (ground.env spS16) 100000 63 eS63_76.1 = some eS63_76.2 := by kernel_rfl
theorem aS63_103 : Ax.call (ground.env spS16) 100000 63 eS63_103.1 = some eS63_103.2 := by kernel_rfl
theorem aS63_125 : Ax.call (ground.env spS16) 100000 63 eS63_125.1 = some eS63_125.2 := by kernel_rfl
theorem aS63_138 : Ax.call (ground.env spS16) 100000 63 eS63_138.1 = some eS63_138.2 := by kernel_rfl
theorem aS63_148 : Ax.call (ground.env spS16) 100000 63 eS63_148.1 = some eS63_148.2 := by kernel_rfl
theorem aS24_8 : Ax.call (ground.env spS17) 100000 24 eS24_8.1 = some eS24_8.2 := by kernel_rfl
end Go.Proofs.YtmbhjdkbcgngiaaGreatDoor
