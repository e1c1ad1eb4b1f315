/- AX: known answers, reckoned: printed by memotab.py. -/
import Derived.Test.YtmbhjdkbcgngiaaGreatDoorZ14
import Derived.KernelRfl
namespace Go.Proofs.YtmbhjdkbcgngiaaGreatDoor
open Go Go.Ax
theorem aS172_0 : Ax.call (ground.env spS2) 100000 172 eS172_0.1 = some eS172_0.2 := by kernel_rfl
theorem aS185_6 : Ax.call (ground.env spS3) 100000 185 eS185_6.1 = some eS185_6.2 := by kernel_rfl
theorem aS185_11 : Ax.call (ground.env spS3) 100000 185 eS185_11.1 = some eS185_11.2 := by kernel_rfl
theorem aS122_14 : Ax.call (ground.env spS4) 100000 122 eS122_14.1 = some eS122_14.2 := by kernel_rfl
theorem aS188_12 : Ax.call (ground.env spS5) 100000 188 eS188_12.1 = some eS188_12.2 := by kernel_rfl
theorem aS121_17 : Ax.call (ground.env spS6) 100000 121 eS121_17.1 = some eS121_17.2 := by kernel_rfl
theorem aS130_19 : Ax.call (ground.env spS8) 100000 130 eS130_19.1 = some eS130_19.2 := by kernel_rfl
theorem aS98_16 : Ax.call (ground.env spS9) 100000 98 eS98_16.1 = some eS98_16.2 := by kernel_rfl
theorem aS98_23 : Ax.call (ground.env spS9) 100000 98 eS98_23.1 = some eS98_23.2 := by kernel_rfl
theorem aS57_10 : Ax.call (ground.env spS10) 100000 57 eS57_10.1 = some eS57_10.2 := by kernel_rfl
theorem aS70_11 : Ax.call (ground.env spS11) 100000 70 eS70_11.1 = some eS70_11.2 := by kernel_rfl
theorem aS70_20 : Ax.call (ground.env spS11) 100000 70 eS70_20.1 = some eS70_20.2 := by kernel_rfl
theorem aS73_0 : Ax.call (ground.env spS13) 100000 73 eS73_0.1 = some eS73_0.2 := by kernel_rfl
theorem aS73_23 : Ax.call (ground.env spS13) 100000 73 eS73_23.1 = some eS73_23.2 := by kernel_rfl
theorem aS42_2 : Ax.call (ground.env spS14) 100000 42 eS42_2.1 = some eS42_2.2 := by kernel_rfl
theorem aS42_18 : Ax.call (ground.env spS14) 100000 42 eS42_18.1 = some eS42_18.2 := by kernel_rfl
theorem aS42_24 : Ax.call (ground.env spS14) 100000 42 eS42_24.1 = some eS42_24.2 := by kernel_rfl
theorem aS58_6 : Ax.call (ground.env spS15) 100000 58 eS58_6.1 = some eS58_6.2 := by kernel_rfl
theorem aS58_25 : Ax.call (ground.env spS15) 100000 58 eS58_25.1 = some eS58_25.2 := by kernel_rfl
theorem aS63_17 : Ax.call (ground.env spS16) 100000 63 eS63_17.1 = some eS63_17.2 := by kernel_rfl
theorem aS63_22 : Ax.call (ground.env spS16) 100000 63 eS63_22.1 = some eS63_22.2 := by kernel_rfl
theorem aS63_42 : Ax.call (ground.env spS16) 100000 63 eS63_42.1 = some eS63_42.2 := by kernel_rfl
theorem aS63_99 : Ax.call (ground.env spS16) 100000 63 eS63_99.1 = some eS63_99.2 := by kernel_rfl
theorem aS24_10 : Ax.call (ground.env spS17) 100000 24 eS24_10.1 = some eS24_10.2 := by kernel_rfl
end Go.Proofs.YtmbhjdkbcgngiaaGreatDoor
