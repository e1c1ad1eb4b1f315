/- AX: known answers, reckoned: printed by memotab.py. -/
import Derived.Test.YtmbhjdkbcgngiaaGreatDoorZ14
import Derived.KernelRfl
namespace Go.Proofs.YtmbhjdkbcgngiaaGreatDoor
open Go Go.Ax
theorem aS172_1 : Ax.call (ground.env spS2) 100000 172 eS172_1.1 = some eS172_1.2 := by kernel_rfl
theorem aS185_1 : Ax.call (ground.env spS3) 100000 185 eS185_1.1 = some eS185_1.2 := by kernel_rfl
theorem aS185_9 : Ax.call (ground.env spS3) 100000 185 eS185_9.1 = some eS185_9.2 := by kernel_rfl
theorem aS185_14 : Ax.call (ground.env spS3) 100000 185 eS185_14.1 = some eS185_14.2 := by kernel_rfl
theorem aS122_8 : Ax.call (ground.env spS4) 100000 122 eS122_8.1 = some eS122_8.2 := by kernel_rfl
theorem aS97_5 : Ax.call (ground.env spS7) 100000 97 eS97_5.1 = some eS97_5.2 := by kernel_rfl
theorem aS97_17 : Ax.call (ground.env spS7) 100000 97 eS97_17.1 = some eS97_17.2 := by kernel_rfl
theorem aS130_5 : Ax.call (ground.env spS8) 100000 130 eS130_5.1 = some eS130_5.2 := by kernel_rfl
theorem aS130_11 : Ax.call (ground.env spS8) 100000 130 eS130_11.1 = some eS130_11.2 := by kernel_rfl
theorem aS130_13 : Ax.call (ground.env spS8) 100000 130 eS130_13.1 = some eS130_13.2 := by kernel_rfl
theorem aS57_13 : Ax.call (ground.env spS10) 100000 57 eS57_13.1 = some eS57_13.2 := by kernel_rfl
theorem aS57_20 : Ax.call (ground.env spS10) 100000 57 eS57_20.1 = some eS57_20.2 := by kernel_rfl
theorem aS70_17 : Ax.call (ground.env spS11) 100000 70 eS70_17.1 = some eS70_17.2 := by kernel_rfl
theorem aS46_19 : Ax.call (ground.env spS12) 100000 46 eS46_19.1 = some eS46_19.2 := by kernel_rfl
theorem aS73_20 : Ax.call (ground.env spS13) 100000 73 eS73_20.1 = some eS73_20.2 := by kernel_rfl
theorem aS42_15 : Ax.call (ground.env spS14) 100000 42 eS42_15.1 = some eS42_15.2 := by kernel_rfl
theorem aS63_27 : Ax.call (ground.env spS16) 100000 63 eS63_27.1 = some eS63_27.2 := by kernel_rfl
theorem aS63_44 : Ax.call (ground.env spS16) 100000 63 eS63_44.1 = some eS63_44.2 := by kernel_rfl
theorem aS63_57 : Ax.call (ground.env spS16) 100000 63 eS63_57.1 = some eS63_57.2 := by kernel_rfl
theorem aS63_84 : Ax.call (ground.env spS16) 100000 63 eS63_84.1 = some eS63_84.2 := by kernel_rfl
theorem aS63_105 : Ax.call (ground.env spS16) 100000 63 eS63_105.1 = some eS63_105.2 := by kernel_rfl
theorem aS63_139 : Ax.call (ground.env spS16) 100000 63 eS63_139.1 = some eS63_139.2 := by kernel_rfl
theorem aS63_156 : Ax.call (ground.env spS16) 100000 63 eS63_156.1 = some eS63_156.2 := by kernel_rfl
theorem aS24_5 : Ax.call (ground.env spS17) 100000 24 eS24_5.1 = some eS24_5.2 := by kernel_rfl
end Go.Proofs.YtmbhjdkbcgngiaaGreatDoor
