/- AX: known answers, reckoned: printed by memotab.py. -/
import Derived.Test.YtmbhjdkbcgngiaaGreatDoorZ14
import Derived.KernelRfl
namespace Go.Proofs.YtmbhjdkbcgngiaaGreatDoor
open Go Go.Ax
theorem aS205_2 : Ax.call (ground.env spS1) 100000 205 eS205_2.1 = some eS205_2.2 := by kernel_rfl
theorem aS205_5 : Ax.call (ground.env spS1) 100000 205 eS205_5.1 = some eS205_5.2 := by kernel_rfl
theorem aS185_4 : Ax.call (ground.env spS3) 100000 185 eS185_4.1 = some eS185_4.2 := by kernel_rfl
theorem aS122_2 : Ax.call (ground.env spS4) 100000 122 eS122_2.1 = some eS122_2.2 := by kernel_rfl
theorem aS188_13 : Ax.call (ground.env spS5) 100000 188 eS188_13.1 = some eS188_13.2 := by kernel_rfl
theorem aS188_20 : Ax.call (ground.env spS5) 100000 188 eS188_20.1 = some eS188_20.2 := by kernel_rfl
theorem aS121_3 : Ax.call (ground.env spS6) 100000 121 eS121_3.1 = some eS121_3.2 := by kernel_rfl
theorem aS98_14 : Ax.call (ground.env spS9) 100000 98 eS98_14.1 = some eS98_14.2 := by kernel_rfl
theorem aS57_19 : Ax.call (ground.env spS10) 100000 57 eS57_19.1 = some eS57_19.2 := by kernel_rfl
theorem aS46_7 : Ax.call (ground.env spS12) 100000 46 eS46_7.1 = some eS46_7.2 := by kernel_rfl
theorem aS46_11 : Ax.call (ground.env spS12) 100000 46 eS46_11.1 = some eS46_11.2 := by kernel_rfl
theorem aS73_9 : Ax.call (ground.env spS13) 100000 73 eS73_9.1 = some eS73_9.2 := by kernel_rfl
theorem aS73_10 : Ax.call (ground.env spS13) 100000 73 eS73_10.1 = some eS73_10.2 := by kernel_rfl
theorem aS73_14 : Ax.call (ground.env spS13) 100000 73 eS73_14.1 = some eS73_14.2 := by kernel_rfl
theorem aS42_11 : Ax.call (ground.env spS14) 100000 42 eS42_11.1 = some eS42_11.2 := by kernel_rfl
theorem aS58_8 : Ax.call (ground.env spS15) 100000 58 eS58_8.1 = some eS58_8.2 := by kernel_rfl
theorem aS58_13 : Ax.call (ground.env spS15) 100000 58 eS58_13.1 = some eS58_13.2 := by kernel_rfl
theorem aS63_46 : Ax.call (ground.env spS16) 100000 63 eS63_46.1 = some eS63_46.2 := by kernel_rfl
theorem aS63_63 : Ax.call (ground.env spS16) 100000 63 eS63_63.1 = some eS63_63.2 := by kernel_rfl
theorem aS63_112 : Ax.call (ground.env spS16) 100000 63 eS63_112.1 = some eS63_112.2 := by kernel_rfl
theorem aS63_116 : Ax.call (ground.env spS16) 100000 63 eS63_116.1 = some eS63_116.2 := by kernel_rfl
theorem aS63_134 : Ax.call (ground.env spS16) 100000 63 eS63_134.1 = some eS63_134.2 := by kernel_rfl
theorem aS24_2 : Ax.call (ground.env spS17) 100000 24 eS24_2.1 = some eS24_2.2 := by kernel_rfl
theorem aS24_4 : Ax.call (ground.env spS17) 100000 24 eS24_4.1 = some eS24_4.2 := by kernel_rfl
end Go.Proofs.YtmbhjdkbcgngiaaGreatDoor
