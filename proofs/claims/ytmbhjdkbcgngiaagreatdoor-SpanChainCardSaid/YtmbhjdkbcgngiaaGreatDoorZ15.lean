/- AX: known answers, reckoned: printed by memotab.py. -/
import Derived.Test.YtmbhjdkbcgngiaaGreatDoorZ14
import Derived.KernelRfl
namespace Go.Proofs.YtmbhjdkbcgngiaaGreatDoor
open Go Go.Ax
theorem aS232_0 : Ax.call (ground.env spS0) 100000 232 eS232_0.1 = some eS232_0.2 := by kernel_rfl
theorem aS205_14 : Ax.call (ground.env spS1) 100000 205 eS205_14.1 = some eS205_14.2 := by kernel_rfl
theorem aS121_14 : Ax.call (ground.env spS6) 100000 121 eS121_14.1 = some eS121_14.2 := by kernel_rfl
theorem aS98_9 : Ax.call (ground.env spS9) 100000 98 eS98_9.1 = some eS98_9.2 := by kernel_rfl
theorem aS98_13 : Ax.call (ground.env spS9) 100000 98 eS98_13.1 = some eS98_13.2 := by kernel_rfl
theorem aS57_7 : Ax.call (ground.env spS10) 100000 57 eS57_7.1 = some eS57_7.2 := by kernel_rfl
theorem aS57_23 : Ax.call (ground.env spS10) 100000 57 eS57_23.1 = some eS57_23.2 := by kernel_rfl
theorem aS57_24 : Ax.call (ground.env spS10) 100000 57 eS57_24.1 = some eS57_24.2 := by kernel_rfl
theorem aS46_26 : Ax.call (ground.env spS12) 100000 46 eS46_26.1 = some eS46_26.2 := by kernel_rfl
theorem aS42_4 : Ax.call (ground.env spS14) 100000 42 eS42_4.1 = some eS42_4.2 := by kernel_rfl
theorem aS42_10 : Ax.call (ground.env spS14) 100000 42 eS42_10.1 = some eS42_10.2 := by kernel_rfl
theorem aS58_3 : Ax.call (ground.env spS15) 100000 58 eS58_3.1 = some eS58_3.2 := by kernel_rfl
theorem aS63_72 : Ax.call (ground.env spS16) 100000 63 eS63_72.1 = some eS63_72.2 := by kernel_rfl
theorem aS63_90 : Ax.call (ground.env spS16) 100000 63 eS63_90.1 = some eS63_90.2 := by kernel_rfl
theorem aS63_95 : Ax.call (ground.env spS16) 100000 63 eS63_95.1 = some eS63_95.2 := by kernel_rfl
theorem aS63_128 : Ax.call (ground.env spS16) 100000 63 eS63_128.1 = some eS63_128.2 := by kernel_rfl
theorem aS63_137 : Ax.call (ground.env spS16) 100000 63 eS63_137.1 = some eS63_137.2 := by kernel_rfl
theorem aS63_140 : Ax.call (ground.env spS16) 100000 63 eS63_140.1 = some eS63_140.2 := by kernel_rfl
theorem aS63_164 : Ax.call (ground.env spS16) 100000 63 eS63_164.1 = some eS63_164.2 := by kernel_rfl
theorem aS24_0 : Ax.call (ground.env spS17) 100000 24 eS24_0.1 = some eS24_0.2 := by kernel_rfl
theorem aS24_7 : Ax.call (ground.env spS17) 100000 24 eS24_7.1 = some eS24_7.2 := by kernel_rfl
end Go.Proofs.YtmbhjdkbcgngiaaGreatDoor
