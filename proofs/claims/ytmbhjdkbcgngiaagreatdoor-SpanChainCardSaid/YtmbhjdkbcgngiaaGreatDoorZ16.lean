/- AX: known answers, reckoned: printed by memotab.py. -/
import Derived.Test.YtmbhjdkbcgngiaaGreatDoorZ14
import Derived.KernelRfl
namespace Go.Proofs.YtmbhjdkbcgngiaaGreatDoor
open Go Go.Ax
theorem aS232_4 : Ax.call (ground.env spS0) 100000 232 eS232_4.1 = some eS232_4.2 := by kernel_rfl
theorem aS172_4 : Ax.call (ground.env spS2) 100000 172 eS172_4.1 = some eS172_4.2 := by kernel_rfl
theorem aS172_10 : Ax.call (ground.env spS2) 100000 172 eS172_10.1 = some eS172_10.2 := by kernel_rfl
theorem aS122_9 : Ax.call (ground.env spS4) 100000 122 eS122_9.1 = some eS122_9.2 := by kernel_rfl
theorem aS188_21 : Ax.call (ground.env spS5) 100000 188 eS188_21.1 = some eS188_21.2 := by kernel_rfl
theorem aS97_23 : Ax.call (ground.env spS7) 100000 97 eS97_23.1 = some eS97_23.2 := by kernel_rfl
theorem aS130_4 : Ax.call (ground.env spS8) 100000 130 eS130_4.1 = some eS130_4.2 := by kernel_rfl
theorem aS98_7 : Ax.call (ground.env spS9) 100000 98 eS98_7.1 = some eS98_7.2 := by kernel_rfl
theorem aS98_18 : Ax.call (ground.env spS9) 100000 98 eS98_18.1 = some eS98_18.2 := by kernel_rfl
theorem aS98_22 : Ax.call (ground.env spS9) 100000 98 eS98_22.1 = some eS98_22.2 := by kernel_rfl
theorem aS70_1 : Ax.call (ground.env spS11) 100000 70 eS70_1.1 = some eS70_1.2 := by kernel_rfl
theorem aS70_2 : Ax.call (ground.env spS11) 100000 70 eS70_2.1 = some eS70_2.2 := by kernel_rfl
theorem aS46_27 : Ax.call (ground.env spS12) 100000 46 eS46_27.1 = some eS46_27.2 := by kernel_rfl
theorem aS42_12 : Ax.call (ground.env spS14) 100000 42 eS42_12.1 = some eS42_12.2 := by kernel_rfl
theorem aS58_23 : Ax.call (ground.env spS15) 100000 58 eS58_23.1 = some eS58_23.2 := by kernel_rfl
theorem aS63_21 : Ax.call (ground.env spS16) 100000 63 eS63_21.1 = some eS63_21.2 := by kernel_rfl
theorem aS63_51 : Ax.call (ground.env spS16) 100000 63 eS63_51.1 = some eS63_51.2 := by kernel_rfl
theorem aS63_96 : Ax.call (ground.env spS16) 100000 63 eS63_96.1 = some eS63_96.2 := by kernel_rfl
theorem aS63_121 : Ax.call (ground.env spS16) 100000 63 eS63_121.1 = some eS63_121.2 := by kernel_rfl
theorem aS63_129 : Ax.call (ground.env spS16) 100000 63 eS63_129.1 = some eS63_129.2 := by kernel_rfl
theorem aS63_158 : Ax.call (ground.env spS16) 100000 63 eS63_158.1 = some eS63_158.2 := by kernel_rfl
end Go.Proofs.YtmbhjdkbcgngiaaGreatDoor
