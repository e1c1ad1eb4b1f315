/- AX: known answers, reckoned: printed by memotab.py. -/
import Derived.Test.YtmbhjdkbcgngiaaGreatDoorZ14
import Derived.KernelRfl
namespace Go.Proofs.YtmbhjdkbcgngiaaGreatDoor
open Go Go.Ax
theorem aS188_8 : Ax.call (ground.env spS5) 100000 188 eS188_8.1 = some eS188_8.2 := by kernel_rfl
theorem aS188_16 : Ax.call (ground.env spS5) 100000 188 eS188_16.1 = some eS188_16.2 := by kernel_rfl
theorem aS97_25 : Ax.call (ground.env spS7) 100000 97 eS97_25.1 = some eS97_25.2 := by kernel_rfl
theorem aS130_15 : Ax.call (ground.env spS8) 100000 130 eS130_15.1 = some eS130_15.2 := by kernel_rfl
theorem aS98_8 : Ax.call (ground.env spS9) 100000 98 eS98_8.1 = some eS98_8.2 := by kernel_rfl
theorem aS57_16 : Ax.call (ground.env spS10) 100000 57 eS57_16.1 = some eS57_16.2 := by kernel_rfl
theorem aS70_23 : Ax.call (ground.env spS11) 100000 70 eS70_23.1 = some eS70_23.2 := by kernel_rfl
theorem aS46_18 : Ax.call (ground.env spS12) 100000 46 eS46_18.1 = some eS46_18.2 := by kernel_rfl
theorem aS42_7 : Ax.call (ground.env spS14) 100000 42 eS42_7.1 = some eS42_7.2 := by kernel_rfl
theorem aS42_8 : Ax.call (ground.env spS14) 100000 42 eS42_8.1 = some eS42_8.2 := by kernel_rfl
theorem aS42_23 : Ax.call (ground.env spS14) 100000 42 eS42_23.1 = some eS42_23.2 := by kernel_rfl
theorem aS58_1 : Ax.call (ground.env spS15) 100000 58 eS58_1.1 = some eS58_1.2 := by kernel_rfl
theorem aS58_7 : Ax.call (ground.env spS15) 100000 58 eS58_7.1 = some eS58_7.2 := by kernel_rfl
theorem aS63_4 : Ax.call (ground.env spS16) 100000 63 eS63_4.1 = some eS63_4.2 := by kernel_rfl
theorem aS63_30 : Ax.call (ground.env spS16) 100000 63 eS63_30.1 = some eS63_30.2 := by kernel_rfl
theorem aS63_89 : Ax.call (ground.env spS16) 100000 63 eS63_89.1 = some eS63_89.2 := by kernel_rfl
theorem aS63_98 : Ax.call (ground.env spS16) 100000 63 eS63_98.1 = some eS63_98.2 := by kernel_rfl
theorem aS63_100 : Ax.call (ground.env spS16) 100000 63 eS63_100.1 = some eS63_100.2 := by kernel_rfl
theorem aS63_117 : Ax.call (ground.env spS16) 100000 63 eS63_117.1 = some eS63_117.2 := by kernel_rfl
theorem aS63_131 : Ax.call (ground.env spS16) 100000 63 eS63_131.1 = some eS63_131.2 := by kernel_rfl
theorem aS63_153 : Ax.call (ground.env spS16) 100000 63 eS63_153.1 = some eS63_153.2 := by kernel_rfl
theorem aS63_162 : Ax.call (ground.env spS16) 100000 63 eS63_162.1 = some eS63_162.2 := by kernel_rfl
end Go.Proofs.YtmbhjdkbcgngiaaGreatDoor
