/- AX: known answers, reckoned: printed by memotab.py. -/
import Derived.Test.YtmbhjdkbcgngiaaGreatDoorZ14
import Derived.KernelRfl
namespace Go.Proofs.YtmbhjdkbcgngiaaGreatDoor
open Go Go.Ax
theorem aS232_7 : Ax.call (ground.env spS0) 100000 232 eS232_7.1 = some eS232_7.2 := by kernel_rfl
theorem aS172_7 : Ax.call (ground.env spS2) 100000 172 eS172_7.1 = some eS172_7.2 := by kernel_rfl
theorem aS172_13 : Ax.call (ground.env spS2) 100000 172 eS172_13.1 = some eS172_13.2 := by kernel_rfl
theorem aS122_11 : Ax.call (ground.env spS4) 100000 122 eS122_11.1 = some eS122_11.2 := by kernel_rfl
theorem aS121_4 : Ax.call (ground.env spS6) 100000 121 eS121_4.1 = some eS121_4.2 := by kernel_rfl
theorem aS97_24 : Ax.call (ground.env spS7) 100000 97 eS97_24.1 = some eS97_24.2 := by kernel_rfl
theorem aS130_8 : Ax.call (ground.env spS8) 100000 130 eS130_8.1 = some eS130_8.2 := by kernel_rfl
theorem aS130_26 : Ax.call (ground.env spS8) 100000 130 eS130_26.1 = some eS130_26.2 := by kernel_rfl
theorem aS70_6 : Ax.call (ground.env spS11) 100000 70 eS70_6.1 = some eS70_6.2 := by kernel_rfl
theorem aS70_8 : Ax.call (ground.env spS11) 100000 70 eS70_8.1 = some eS70_8.2 := by kernel_rfl
theorem aS46_0 : Ax.call (ground.env spS12) 100000 46 eS46_0.1 = some eS46_0.2 := by kernel_rfl
theorem aS46_6 : Ax.call (ground.env spS12) 100000 46 eS46_6.1 = some eS46_6.2 := by kernel_rfl
theorem aS73_15 : Ax.call (ground.env spS13) 100000 73 eS73_15.1 = some eS73_15.2 := by kernel_rfl
theorem aS42_1 : Ax.call (ground.env spS14) 100000 42 eS42_1.1 = some eS42_1.2 := by kernel_rfl
theorem aS42_5 : Ax.call (ground.env spS14) 100000 42 eS42_5.1 = some eS42_5.2 := by kernel_rfl
theorem aS58_17 : Ax.call (ground.env spS15) 100000 58 eS58_17.1 = some eS58_17.2 := by kernel_rfl
theorem aS63_35 : Ax.call (ground.env spS16) 100000 63 eS63_35.1 = some eS63_35.2 := by kernel_rfl
theorem aS63_47 : Ax.call (ground.env spS16) 100000 63 eS63_47.1 = some eS63_47.2 := by kernel_rfl
theorem aS63_53 : Ax.call (ground.env spS16) 100000 63 eS63_53.1 = some eS63_53.2 := by kernel_rfl
theorem aS63_93 : Ax.call (ground.env spS16) 100000 63 eS63_93.1 = some eS63_93.2 := by kernel_rfl
theorem aS63_97 : Ax.call (ground.env spS16) 100000 63 eS63_97.1 = some eS63_97.2 := by kernel_rfl
theorem aS63_124 : Ax.call (ground.env spS16) 100000 63 eS63_124.1 = some eS63_124.2 := by kernel_rfl
theorem aS63_161 : Ax.call (ground.env spS16) 100000 63 eS63_161.1 = some eS63_161.2 := by kernel_rfl
end Go.Proofs.YtmbhjdkbcgngiaaGreatDoor
