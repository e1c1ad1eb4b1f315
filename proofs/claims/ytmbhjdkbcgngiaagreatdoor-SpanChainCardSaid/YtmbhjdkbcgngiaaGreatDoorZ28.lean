/- AX: known answers, reckoned: printed by memotab.py. -/
import Derived.Test.YtmbhjdkbcgngiaaGreatDoorZ14
import Derived.KernelRfl
namespace Go.Proofs.YtmbhjdkbcgngiaaGreatDoor
open Go Go.Ax
theorem aS205_1 : Ax.call (ground.env spS1) 100000 205 eS205_1.1 = some eS205_1.2 := by kernel_rfl
theorem aS122_0 : Ax.call (ground.env spS4) 100000 122 eS122_0.1 = some eS122_0.2 := by kernel_rfl
theorem aS188_5 : Ax.call (ground.env spS5) 100000 188 eS188_5.1 = some eS188_5.2 := by kernel_rfl
theorem aS121_0 : Ax.call (ground.env spS6) 100000 121 eS121_0.1 = some eS121_0.2 := by kernel_rfl
theorem aS121_25 : Ax.call (ground.env spS6) 100000 121 eS121_25.1 = some eS121_25.2 := by kernel_rfl
theorem aS130_12 : Ax.call (ground.env spS8) 100000 130 eS130_12.1 = some eS130_12.2 := by kernel_rfl
theorem aS98_5 : Ax.call (ground.env spS9) 100000 98 eS98_5.1 = some eS98_5.2 := by kernel_rfl
theorem aS98_19 : Ax.call (ground.env spS9) 100000 98 eS98_19.1 = some eS98_19.2 := by kernel_rfl
theorem aS98_24 : Ax.call (ground.env spS9) 100000 98 eS98_24.1 = some eS98_24.2 := by kernel_rfl
theorem aS57_1 : Ax.call (ground.env spS10) 100000 57 eS57_1.1 = some eS57_1.2 := by kernel_rfl
theorem aS57_15 : Ax.call (ground.env spS10) 100000 57 eS57_15.1 = some eS57_15.2 := by kernel_rfl
theorem aS57_21 : Ax.call (ground.env spS10) 100000 57 eS57_21.1 = some eS57_21.2 := by kernel_rfl
theorem aS57_26 : Ax.call (ground.env spS10) 100000 57 eS57_26.1 = some eS57_26.2 := by kernel_rfl
theorem aS46_21 : Ax.call (ground.env spS12) 100000 46 eS46_21.1 = some eS46_21.2 := by kernel_rfl
theorem aS73_8 : Ax.call (ground.env spS13) 100000 73 eS73_8.1 = some eS73_8.2 := by kernel_rfl
theorem aS42_3 : Ax.call (ground.env spS14) 100000 42 eS42_3.1 = some eS42_3.2 := by kernel_rfl
theorem aS42_17 : Ax.call (ground.env spS14) 100000 42 eS42_17.1 = some eS42_17.2 := by kernel_rfl
theorem aS42_22 : Ax.call (ground.env spS14) 100000 42 eS42_22.1 = some eS42_22.2 := by kernel_rfl
theorem aS63_43 : Ax.call (ground.env spS16) 100000 63 eS63_43.1 = some eS63_43.2 := by kernel_rfl
theorem aS63_75 : Ax.call (ground.env spS16) 100000 63 eS63_75.1 = some eS63_75.2 := by kernel_rfl
theorem aS63_83 : Ax.call (ground.env spS16) 100000 63 eS63_83.1 = some eS63_83.2 := by kernel_rfl
theorem aS63_87 : Ax.call (ground.env spS16) 100000 63 eS63_87.1 = some eS63_87.2 := by kernel_rfl
theorem aS63_101 : Ax.call (ground.env spS16) 100000 63 eS63_101.1 = some eS63_101.2 := by kernel_rfl
end Go.Proofs.YtmbhjdkbcgngiaaGreatDoor
