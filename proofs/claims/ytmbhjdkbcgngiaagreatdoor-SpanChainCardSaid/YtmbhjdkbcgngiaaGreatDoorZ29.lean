/- AX: known answers, reckoned: printed by memotab.py. -/
import Derived.Test.YtmbhjdkbcgngiaaGreatDoorZ14
import Derived.KernelRfl
namespace Go.Proofs.YtmbhjdkbcgngiaaGreatDoor
open Go Go.Ax
theorem aS205_7 : Ax.call (ground.env spS1) 100000 205 eS205_7.1 = some eS205_7.2 := by kernel_rfl
theorem aS185_7 : Ax.call (ground.env spS3) 100000 185 eS185_7.1 = some eS185_7.2 := by kernel_rfl
theorem aS185_12 : Ax.call (ground.env spS3) 100000 185 eS185_12.1 = some eS185_12.2 := by kernel_rfl
theorem aS122_3 : Ax.call (ground.env spS4) 100000 122 eS122_3.1 = some eS122_3.2 := by kernel_rfl
theorem aS188_0 : Ax.call (ground.env spS5) 100000 188 eS188_0.1 = some eS188_0.2 := by kernel_rfl
theorem aS188_9 : Ax.call (ground.env spS5) 100000 188 eS188_9.1 = some eS188_9.2 := by kernel_rfl
theorem aS121_19 : Ax.call (ground.env spS6) 100000 121 eS121_19.1 = some eS121_19.2 := by kernel_rfl
theorem aS97_0 : Ax.call (ground.env spS7) 100000 97 eS97_0.1 = some eS97_0.2 := by kernel_rfl
theorem aS97_12 : Ax.call (ground.env spS7) 100000 97 eS97_12.1 = some eS97_12.2 := by kernel_rfl
theorem aS97_15 : Ax.call (ground.env spS7) 100000 97 eS97_15.1 = some eS97_15.2 := by kernel_rfl
theorem aS57_9 : Ax.call (ground.env spS10) 100000 57 eS57_9.1 = some eS57_9.2 := by kernel_rfl
theorem aS57_12 : Ax.call (ground.env spS10) 100000 57 eS57_12.1 = some eS57_12.2 := by kernel_rfl
theorem aS70_0 : Ax.call (ground.env spS11) 100000 70 eS70_0.1 = some eS70_0.2 := by kernel_rfl
theorem aS73_26 : Ax.call (ground.env spS13) 100000 73 eS73_26.1 = some eS73_26.2 := by kernel_rfl
theorem aS42_13 : Ax.call (ground.env spS14) 100000 42 eS42_13.1 = some eS42_13.2 := by kernel_rfl
theorem aS42_19 : Ax.call (ground.env spS14) 100000 42 eS42_19.1 = some eS42_19.2 := by kernel_rfl
theorem aS42_25 : Ax.call (ground.env spS14) 100000 42 eS42_25.1 = some eS42_25.2 := by kernel_rfl
theorem aS63_13 : Ax.call (ground.env spS16) 100000 63 eS63_13.1 = some eS63_13.2 := by kernel_rfl
theorem aS63_61 : Ax.call (ground.env spS16) 100000 63 eS63_61.1 = some eS63_61.2 := by kernel_rfl
theorem aS63_82 : Ax.call (ground.env spS16) 100000 63 eS63_82.1 = some eS63_82.2 := by kernel_rfl
theorem aS63_86 : Ax.call (ground.env spS16) 100000 63 eS63_86.1 = some eS63_86.2 := by kernel_rfl
theorem aS63_94 : Ax.call (ground.env spS16) 100000 63 eS63_94.1 = some eS63_94.2 := by kernel_rfl
theorem aS63_111 : Ax.call (ground.env spS16) 100000 63 eS63_111.1 = some eS63_111.2 := by kernel_rfl
theorem aS63_151 : Ax.call (ground.env spS16) 100000 63 eS63_151.1 = some eS63_151.2 := by kernel_rfl
theorem aS63_163 : Ax.call (ground.env spS16) 100000 63 eS63_163.1 = some eS63_163.2 := by kernel_rfl
end Go.Proofs.YtmbhjdkbcgngiaaGreatDoor
