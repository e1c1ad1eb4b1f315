/- AX: known answers, reckoned: printed by memotab.py. -/
import Derived.Test.YtmbhjdkbcgngiaaGreatDoorZ14
import Derived.KernelRfl
namespace Go.Proofs.YtmbhjdkbcgngiaaGreatDoor
open Go Go.Ax
theorem aS232_3 : Ax.call (ground.env spS0) 100000 232 eS232_3.1 = some eS232_3.2 := by kernel_rfl
theorem aS205_10 : Ax.call (ground.env spS1) 100000 205 eS205_10.1 = some eS205_10.2 := by kernel_rfl
theorem aS121_5 : Ax.call (ground.env spS6) 100000 121 eS121_5.1 = some eS121_5.2 := by kernel_rfl
theorem aS121_20 : Ax.call (ground.env spS6) 100000 121 eS121_20.1 = some eS121_20.2 := by kernel_rfl
theorem aS121_22 : Ax.call (ground.env spS6) 100000 121 eS121_22.1 = some eS121_22.2 := by kernel_rfl
theorem aS97_9 : Ax.call (ground.env spS7) 100000 97 eS97_9.1 = some eS97_9.2 := by kernel_rfl
theorem aS130_14 : Ax.call (ground.env spS8) 100000 130 eS130_14.1 = some eS130_14.2 := by kernel_rfl
theorem aS98_10 : Ax.call (ground.env spS9) 100000 98 eS98_10.1 = some eS98_10.2 := by kernel_rfl
theorem aS57_5 : Ax.call (ground.env spS10) 100000 57 eS57_5.1 = some eS57_5.2 := by kernel_rfl
theorem aS70_15 : Ax.call (ground.env spS11) 100000 70 eS70_15.1 = some eS70_15.2 := by kernel_rfl
theorem aS70_24 : Ax.call (ground.env spS11) 100000 70 eS70_24.1 = some eS70_24.2 := by kernel_rfl
theorem aS46_23 : Ax.call (ground.env spS12) 100000 46 eS46_23.1 = some eS46_23.2 := by kernel_rfl
theorem aS73_12 : Ax.call (ground.env spS13) 100000 73 eS73_12.1 = some eS73_12.2 := by kernel_rfl
theorem aS63_1 : Ax.call (ground.env spS16) 100000 63 eS63_1.1 = some eS63_1.2 := by kernel_rfl
theorem aS63_9 : Ax.call (ground.env spS16) 100000 63 eS63_9.1 = some eS63_9.2 := by kernel_rfl
theorem aS63_18 : Ax.call (ground.env spS16) 100000 63 eS63_18.1 = some eS63_18.2 := by kernel_rfl
theorem aS63_37 : Ax.call (ground.env spS16) 100000 63 eS63_37.1 = some eS63_37.2 := by kernel_rfl
theorem aS63_39 : Ax.call (ground.env spS16) 100000 63 eS63_39.1 = some eS63_39.2 := by kernel_rfl
theorem aS63_49 : Ax.call (ground.env spS16) 100000 63 eS63_49.1 = some eS63_49.2 := by kernel_rfl
theorem aS63_73 : Ax.call (ground.env spS16) 100000 63 eS63_73.1 = some eS63_73.2 := by kernel_rfl
theorem aS63_135 : Ax.call (ground.env spS16) 100000 63 eS63_135.1 = some eS63_135.2 := by kernel_rfl
theorem aS63_150 : Ax.call (ground.env spS16) 100000 63 eS63_150.1 = some eS63_150.2 := by kernel_rfl
end Go.Proofs.YtmbhjdkbcgngiaaGreatDoor
