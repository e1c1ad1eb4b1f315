/- AX: known answers, reckoned: printed by memotab.py. -/
import Derived.Test.YtmbhjdkbcgngiaaGreatDoorZ14
import Derived.KernelRfl
namespace Go.Proofs.YtmbhjdkbcgngiaaGreatDoor
open Go Go.Ax
theorem aS232_5 : Ax.call (ground.env spS0) 100000 232 eS232_5.1 = some eS232_5.2 := by kernel_rfl
theorem aS172_5 : Ax.call (ground.env spS2) 100000 172 eS172_5.1 = some eS172_5.2 := by kernel_rfl
theorem aS172_11 : Ax.call (ground.env spS2) 100000 172 eS172_11.1 = some eS172_11.2 := by kernel_rfl
theorem aS122_10 : Ax.call (ground.env spS4) 100000 122 eS122_10.1 = some eS122_10.2 := by kernel_rfl
theorem aS121_23 : Ax.call (ground.env spS6) 100000 121 eS121_23.1 = some eS121_23.2 := by kernel_rfl
theorem aS97_2 : Ax.call (ground.env spS7) 100000 97 eS97_2.1 = some eS97_2.2 := by kernel_rfl
theorem aS97_6 : Ax.call (ground.env spS7) 100000 97 eS97_6.1 = some eS97_6.2 := by kernel_rfl
theorem aS97_16 : Ax.call (ground.env spS7) 100000 97 eS97_16.1 = some eS97_16.2 := by kernel_rfl
theorem aS130_24 : Ax.call (ground.env spS8) 100000 130 eS130_24.1 = some eS130_24.2 := by kernel_rfl
theorem aS98_20 : Ax.call (ground.env spS9) 100000 98 eS98_20.1 = some eS98_20.2 := by kernel_rfl
theorem aS98_26 : Ax.call (ground.env spS9) 100000 98 eS98_26.1 = some eS98_26.2 := by kernel_rfl
theorem aS70_3 : Ax.call (ground.env spS11) 100000 70 eS70_3.1 = some eS70_3.2 := by kernel_rfl
theorem aS70_4 : Ax.call (ground.env spS11) 100000 70 eS70_4.1 = some eS70_4.2 := by kernel_rfl
theorem aS46_5 : Ax.call (ground.env spS12) 100000 46 eS46_5.1 = some eS46_5.2 := by kernel_rfl
theorem aS46_17 : Ax.call (ground.env spS12) 100000 46 eS46_17.1 = some eS46_17.2 := by kernel_rfl
theorem aS73_1 : Ax.call (ground.env spS13) 100000 73 eS73_1.1 = some eS73_1.2 := by kernel_rfl
theorem aS73_4 : Ax.call (ground.env spS13) 100000 73 eS73_4.1 = some eS73_4.2 := by kernel_rfl
theorem aS58_9 : Ax.call (ground.env spS15) 100000 58 eS58_9.1 = some eS58_9.2 := by kernel_rfl
theorem aS63_12 : Ax.call (ground.env spS16) 100000 63 eS63_12.1 = some eS63_12.2 := by kernel_rfl
theorem aS63_23 : Ax.call (ground.env spS16) 100000 63 eS63_23.1 = some eS63_23.2 := by kernel_rfl
theorem aS63_65 : Ax.call (ground.env spS16) 100000 63 eS63_65.1 = some eS63_65.2 := by kernel_rfl
theorem aS63_77 : Ax.call (ground.env spS16) 100000 63 eS63_77.1 = some eS63_77.2 := by kernel_rfl
theorem aS63_110 : Ax.call (ground.env spS16) 100000 63 eS63_110.1 = some eS63_110.2 := by kernel_rfl
end Go.Proofs.YtmbhjdkbcgngiaaGreatDoor
