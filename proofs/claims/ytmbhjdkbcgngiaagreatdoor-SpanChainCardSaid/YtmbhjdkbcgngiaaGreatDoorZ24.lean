/- AX: known answers, reckoned: printed by memotab.py. -/
import Derived.Test.YtmbhjdkbcgngiaaGreatDoorZ14
import Derived.KernelRfl
namespace Go.Proofs.YtmbhjdkbcgngiaaGreatDoor
open Go Go.Ax
theorem aS205_15 : Ax.call (ground.env spS1) 100000 205 eS205_15.1 = some eS205_15.2 := by kernel_rfl
theorem aS172_9 : Ax.call (ground.env spS2) 100000 172 eS172_9.1 = some eS172_9.2 := by kernel_rfl
theorem aS172_15 : Ax.call (ground.env spS2) 100000 172 eS172_15.1 = some eS172_15.2 := by kernel_rfl
theorem aS122_7 : Ax.call (ground.env spS4) 100000 122 eS122_7.1 = some eS122_7.2 := by kernel_rfl
theorem aS188_1 : Ax.call (ground.env spS5) 100000 188 eS188_1.1 = some eS188_1.2 := by kernel_rfl
theorem aS121_1 : Ax.call (ground.env spS6) 100000 121 eS121_1.1 = some eS121_1.2 := by kernel_rfl
theorem aS98_0 : Ax.call (ground.env spS9) 100000 98 eS98_0.1 = some eS98_0.2 := by kernel_rfl
theorem aS70_12 : Ax.call (ground.env spS11) 100000 70 eS70_12.1 = some eS70_12.2 := by kernel_rfl
theorem aS46_9 : Ax.call (ground.env spS12) 100000 46 eS46_9.1 = some eS46_9.2 := by kernel_rfl
theorem aS46_24 : Ax.call (ground.env spS12) 100000 46 eS46_24.1 = some eS46_24.2 := by kernel_rfl
theorem aS73_11 : Ax.call (ground.env spS13) 100000 73 eS73_11.1 = some eS73_11.2 := by kernel_rfl
theorem aS73_19 : Ax.call (ground.env spS13) 100000 73 eS73_19.1 = some eS73_19.2 := by kernel_rfl
theorem aS73_27 : Ax.call (ground.env spS13) 100000 73 eS73_27.1 = some eS73_27.2 := by kernel_rfl
theorem aS58_20 : Ax.call (ground.env spS15) 100000 58 eS58_20.1 = some eS58_20.2 := by kernel_rfl
theorem aS63_15 : Ax.call (ground.env spS16) 100000 63 eS63_15.1 = some eS63_15.2 := by kernel_rfl
theorem aS63_25 : Ax.call (ground.env spS16) 100000 63 eS63_25.1 = some eS63_25.2 := by kernel_rfl
theorem aS63_31 : Ax.call (ground.env spS16) 100000 63 eS63_31.1 = some eS63_31.2 := by kernel_rfl
theorem aS63_32 : Ax.call (ground.env spS16) 100000 63 eS63_32.1 = some eS63_32.2 := by kernel_rfl
theorem aS63_68 : Ax.call (ground.env spS16) 100000 63 eS63_68.1 = some eS63_68.2 := by kernel_rfl
theorem aS63_88 : Ax.call (ground.env spS16) 100000 63 eS63_88.1 = some eS63_88.2 := by kernel_rfl
theorem aS63_122 : Ax.call (ground.env spS16) 100000 63 eS63_122.1 = some eS63_122.2 := by kernel_rfl
theorem aS63_165 : Ax.call (ground.env spS16) 100000 63 eS63_165.1 = some eS63_165.2 := by kernel_rfl
theorem aS24_3 : Ax.call (ground.env spS17) 100000 24 eS24_3.1 = some eS24_3.2 := by kernel_rfl
end Go.Proofs.YtmbhjdkbcgngiaaGreatDoor
