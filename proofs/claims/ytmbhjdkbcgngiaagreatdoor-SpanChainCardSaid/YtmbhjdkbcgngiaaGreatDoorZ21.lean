/- AX: known answers, reckoned: printed by memotab.py. -/
import Derived.Test.YtmbhjdkbcgngiaaGreatDoorZ14
import Derived.KernelRfl
namespace Go.Proofs.YtmbhjdkbcgngiaaGreatDoor
open Go Go.Ax
theorem aS172_2 : Ax.call (ground.env spS2) 100000 172 eS172_2.1 = some eS172_2.2 := by kernel_rfl
theorem aS185_2 : Ax.call (ground.env spS3) 100000 185 eS185_2.1 = some eS185_2.2 := by kernel_rfl
theorem aS185_10 : Ax.call (ground.env spS3) 100000 185 eS185_10.1 = some eS185_10.2 := by kernel_rfl
theorem aS185_15 : Ax.call (ground.env spS3) 100000 185 eS185_15.1 = some eS185_15.2 := by kernel_rfl
theorem aS122_13 : Ax.call (ground.env spS4) 100000 122 eS122_13.1 = some eS122_13.2 := by kernel_rfl
theorem aS130_0 : Ax.call (ground.env spS8) 100000 130 eS130_0.1 = some eS130_0.2 := by kernel_rfl
theorem aS130_9 : Ax.call (ground.env spS8) 100000 130 eS130_9.1 = some eS130_9.2 := by kernel_rfl
theorem aS130_17 : Ax.call (ground.env spS8) 100000 130 eS130_17.1 = some eS130_17.2 := by kernel_rfl
theorem aS130_20 : Ax.call (ground.env spS8) 100000 130 eS130_20.1 = some eS130_20.2 := by kernel_rfl
theorem aS98_11 : Ax.call (ground.env spS9) 100000 98 eS98_11.1 = some eS98_11.2 := by kernel_rfl
theorem aS57_11 : Ax.call (ground.env spS10) 100000 57 eS57_11.1 = some eS57_11.2 := by kernel_rfl
theorem aS70_10 : Ax.call (ground.env spS11) 100000 70 eS70_10.1 = some eS70_10.2 := by kernel_rfl
theorem aS70_16 : Ax.call (ground.env spS11) 100000 70 eS70_16.1 = some eS70_16.2 := by kernel_rfl
theorem aS73_13 : Ax.call (ground.env spS13) 100000 73 eS73_13.1 = some eS73_13.2 := by kernel_rfl
theorem aS42_6 : Ax.call (ground.env spS14) 100000 42 eS42_6.1 = some eS42_6.2 := by kernel_rfl
theorem aS42_14 : Ax.call (ground.env spS14) 100000 42 eS42_14.1 = some eS42_14.2 := by kernel_rfl
theorem aS58_11 : Ax.call (ground.env spS15) 100000 58 eS58_11.1 = some eS58_11.2 := by kernel_rfl
theorem aS58_15 : Ax.call (ground.env spS15) 100000 58 eS58_15.1 = some eS58_15.2 := by kernel_rfl
theorem aS58_21 : Ax.call (ground.env spS15) 100000 58 eS58_21.1 = some eS58_21.2 := by kernel_rfl
theorem aS58_24 : Ax.call (ground.env spS15) 100000 58 eS58_24.1 = some eS58_24.2 := by kernel_rfl
theorem aS63_26 : Ax.call (ground.env spS16) 100000 63 eS63_26.1 = some eS63_26.2 := by kernel_rfl
theorem aS63_107 : Ax.call (ground.env spS16) 100000 63 eS63_107.1 = some eS63_107.2 := by kernel_rfl
theorem aS63_118 : Ax.call (ground.env spS16) 100000 63 eS63_118.1 = some eS63_118.2 := by kernel_rfl
theorem aS63_145 : Ax.call (ground.env spS16) 100000 63 eS63_145.1 = some eS63_145.2 := by kernel_rfl
theorem aS24_13 : Ax.call (ground.env spS17) 100000 24 eS24_13.1 = some eS24_13.2 := by kernel_rfl
end Go.Proofs.YtmbhjdkbcgngiaaGreatDoor
