/- AX: known answers, reckoned: printed by memotab.py. -/
import Derived.Test.YtmbhjdkbcgngiaaGreatDoorZ14
import Derived.KernelRfl
namespace Go.Proofs.YtmbhjdkbcgngiaaGreatDoor
open Go Go.Ax
theorem aS232_2 : Ax.call (ground.env spS0) 100000 232 eS232_2.1 = some eS232_2.2 := by kernel_rfl
theorem aS172_3 : Ax.call (ground.env spS2) 100000 172 eS172_3.1 = some eS172_3.2 := by kernel_rfl
theorem aS122_12 : Ax.call (ground.env spS4) 100000 122 eS122_12.1 = some eS122_12.2 := by kernel_rfl
theorem aS97_22 : Ax.call (ground.env spS7) 100000 97 eS97_22.1 = some eS97_22.2 := by kernel_rfl
theorem aS130_6 : Ax.call (ground.env spS8) 100000 130 eS130_6.1 = some eS130_6.2 := by kernel_rfl
theorem aS130_18 : Ax.call (ground.env spS8) 100000 130 eS130_18.1 = some eS130_18.2 := by kernel_rfl
theorem aS98_4 : Ax.call (ground.env spS9) 100000 98 eS98_4.1 = some eS98_4.2 := by kernel_rfl
theorem aS98_25 : Ax.call (ground.env spS9) 100000 98 eS98_25.1 = some eS98_25.2 := by kernel_rfl
theorem aS57_8 : Ax.call (ground.env spS10) 100000 57 eS57_8.1 = some eS57_8.2 := by kernel_rfl
theorem aS70_7 : Ax.call (ground.env spS11) 100000 70 eS70_7.1 = some eS70_7.2 := by kernel_rfl
theorem aS70_13 : Ax.call (ground.env spS11) 100000 70 eS70_13.1 = some eS70_13.2 := by kernel_rfl
theorem aS46_15 : Ax.call (ground.env spS12) 100000 46 eS46_15.1 = some eS46_15.2 := by kernel_rfl
theorem aS58_26 : Ax.call (ground.env spS15) 100000 58 eS58_26.1 = some eS58_26.2 := by kernel_rfl
theorem aS63_33 : Ax.call (ground.env spS16) 100000 63 eS63_33.1 = some eS63_33.2 := by kernel_rfl
theorem aS63_54 : Ax.call (ground.env spS16) 100000 63 eS63_54.1 = some eS63_54.2 := by kernel_rfl
theorem aS63_59 : Ax.call (ground.env spS16) 100000 63 eS63_59.1 = some eS63_59.2 := by kernel_rfl
theorem aS63_60 : Ax.call (ground.env spS16) 100000 63 eS63_60.1 = some eS63_60.2 := by kernel_rfl
theorem aS63_104 : Ax.call (ground.env spS16) 100000 63 eS63_104.1 = some eS63_104.2 := by kernel_rfl
theorem aS63_114 : Ax.call (ground.env spS16) 100000 63 eS63_114.1 = some eS63_114.2 := by kernel_rfl
theorem aS63_120 : Ax.call (ground.env spS16) 100000 63 eS63_120.1 = some eS63_120.2 := by kernel_rfl
theorem aS63_141 : Ax.call (ground.env spS16) 100000 63 eS63_141.1 = some eS63_141.2 := by kernel_rfl
theorem aS63_142 : Ax.call (ground.env spS16) 100000 63 eS63_142.1 = some eS63_142.2 := by kernel_rfl
theorem aS63_159 : Ax.call (ground.env spS16) 100000 63 eS63_159.1 = some eS63_159.2 := by kernel_rfl
end Go.Proofs.YtmbhjdkbcgngiaaGreatDoor
