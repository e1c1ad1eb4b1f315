/- AX: known answers, reckoned: printed by memotab.py. -/
import Derived.Test.YtmbhjdkbcgngiaaGreatDoorZ14
import Derived.KernelRfl
namespace Go.Proofs.YtmbhjdkbcgngiaaGreatDoor
open Go Go.Ax
theorem aS205_0 : Ax.call (ground.env spS1) 100000 205 eS205_0.1 = some eS205_0.2 := by kernel_rfl
theorem aS185_3 : Ax.call (ground.env spS3) 100000 185 eS185_3.1 = some eS185_3.2 := by kernel_rfl
theorem aS188_11 : Ax.call (ground.env spS5) 100000 188 eS188_11.1 = some eS188_11.2 := by kernel_rfl
theorem aS188_15 : Ax.call (ground.env spS5) 100000 188 eS188_15.1 = some eS188_15.2 := by kernel_rfl
theorem aS188_19 : Ax.call (ground.env spS5) 100000 188 eS188_19.1 = some eS188_19.2 := by kernel_rfl
theorem aS121_21 : Ax.call (ground.env spS6) 100000 121 eS121_21.1 = some eS121_21.2 := by kernel_rfl
theorem aS97_26 : Ax.call (ground.env spS7) 100000 97 eS97_26.1 = some eS97_26.2 := by kernel_rfl
theorem aS97_27 : Ax.call (ground.env spS7) 100000 97 eS97_27.1 = some eS97_27.2 := by kernel_rfl
theorem aS130_22 : Ax.call (ground.env spS8) 100000 130 eS130_22.1 = some eS130_22.2 := by kernel_rfl
theorem aS57_18 : Ax.call (ground.env spS10) 100000 57 eS57_18.1 = some eS57_18.2 := by kernel_rfl
theorem aS70_14 : Ax.call (ground.env spS11) 100000 70 eS70_14.1 = some eS70_14.2 := by kernel_rfl
theorem aS70_21 : Ax.call (ground.env spS11) 100000 70 eS70_21.1 = some eS70_21.2 := by kernel_rfl
theorem aS73_6 : Ax.call (ground.env spS13) 100000 73 eS73_6.1 = some eS73_6.2 := by kernel_rfl
theorem aS42_9 : Ax.call (ground.env spS14) 100000 42 eS42_9.1 = some eS42_9.2 := by kernel_rfl
theorem aS63_10 : Ax.call (ground.env spS16) 100000 63 eS63_10.1 = some eS63_10.2 := by kernel_rfl
theorem aS63_24 : Ax.call (ground.env spS16) 100000 63 eS63_24.1 = some eS63_24.2 := by kernel_rfl
theorem aS63_45 : Ax.call (ground.env spS16) 100000 63 eS63_45.1 = some eS63_45.2 := by kernel_rfl
theorem aS63_56 : Ax.call (ground.env spS16) 100000 63 eS63_56.1 = some eS63_56.2 := by kernel_rfl
theorem aS63_67 : Ax.call (ground.env spS16) 100000 63 eS63_67.1 = some eS63_67.2 := by kernel_rfl
theorem aS63_108 : Ax.call (ground.env spS16) 100000 63 eS63_108.1 = some eS63_108.2 := by kernel_rfl
theorem aS63_126 : Ax.call (ground.env spS16) 100000 63 eS63_126.1 = some eS63_126.2 := by kernel_rfl
theorem aS63_154 : Ax.call (ground.env spS16) 100000 63 eS63_154.1 = some eS63_154.2 := by kernel_rfl
theorem aS63_166 : Ax.call (ground.env spS16) 100000 63 eS63_166.1 = some eS63_166.2 := by kernel_rfl
theorem aS24_11 : Ax.call (ground.env spS17) 100000 24 eS24_11.1 = some eS24_11.2 := by kernel_rfl
end Go.Proofs.YtmbhjdkbcgngiaaGreatDoor
