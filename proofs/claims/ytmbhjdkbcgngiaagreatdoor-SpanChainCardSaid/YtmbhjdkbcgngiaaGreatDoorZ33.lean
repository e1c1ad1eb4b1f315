/- AX: known answers, reckoned: printed by memotab.py. -/
import Derived.Test.YtmbhjdkbcgngiaaGreatDoorZ14
import Derived.KernelRfl
namespace Go.Proofs.YtmbhjdkbcgngiaaGreatDoor
open Go Go.Ax
theorem aS232_6 : Ax.call (ground.env spS0) 100000 232 eS232_6.1 = some eS232_6.2 := by kernel_rfl
theorem aS205_11 : Ax.call (ground.env spS1) 100000 205 eS205_11.1 = some eS205_11.2 := by kernel_rfl
theorem aS172_6 : Ax.call (ground.env spS2) 100000 172 eS172_6.1 = some eS172_6.2 := by kernel_rfl
theorem aS172_12 : Ax.call (ground.env spS2) 100000 172 eS172_12.1 = some eS172_12.2 := by kernel_rfl
theorem aS122_5 : Ax.call (ground.env spS4) 100000 122 eS122_5.1 = some eS122_5.2 := by kernel_rfl
theorem aS188_18 : Ax.call (ground.env spS5) 100000 188 eS188_18.1 = some eS188_18.2 := by kernel_rfl
theorem aS121_11 : Ax.call (ground.env spS6) 100000 121 eS121_11.1 = some eS121_11.2 := by kernel_rfl
theorem aS121_26 : Ax.call (ground.env spS6) 100000 121 eS121_26.1 = some eS121_26.2 := by kernel_rfl
theorem aS97_18 : Ax.call (ground.env spS7) 100000 97 eS97_18.1 = some eS97_18.2 := by kernel_rfl
theorem aS130_7 : Ax.call (ground.env spS8) 100000 130 eS130_7.1 = some eS130_7.2 := by kernel_rfl
theorem aS70_5 : Ax.call (ground.env spS11) 100000 70 eS70_5.1 = some eS70_5.2 := by kernel_rfl
theorem aS46_4 : Ax.call (ground.env spS12) 100000 46 eS46_4.1 = some eS46_4.2 := by kernel_rfl
theorem aS46_16 : Ax.call (ground.env spS12) 100000 46 eS46_16.1 = some eS46_16.2 := by kernel_rfl
theorem aS73_3 : Ax.call (ground.env spS13) 100000 73 eS73_3.1 = some eS73_3.2 := by kernel_rfl
theorem aS73_17 : Ax.call (ground.env spS13) 100000 73 eS73_17.1 = some eS73_17.2 := by kernel_rfl
theorem aS73_24 : Ax.call (ground.env spS13) 100000 73 eS73_24.1 = some eS73_24.2 := by kernel_rfl
theorem aS58_5 : Ax.call (ground.env spS15) 100000 58 eS58_5.1 = some eS58_5.2 := by kernel_rfl
theorem aS63_16 : Ax.call (ground.env spS16) 100000 63 eS63_16.1 = some eS63_16.2 := by kernel_rfl
theorem aS63_78 : Ax.call (ground.env spS16) 100000 63 eS63_78.1 = some eS63_78.2 := by kernel_rfl
theorem aS63_81 : Ax.call (ground.env spS16) 100000 63 eS63_81.1 = some eS63_81.2 := by kernel_rfl
theorem aS63_130 : Ax.call (ground.env spS16) 100000 63 eS63_130.1 = some eS63_130.2 := by kernel_rfl
theorem aS63_144 : Ax.call (ground.env spS16) 100000 63 eS63_144.1 = some eS63_144.2 := by kernel_rfl
theorem aS63_152 : Ax.call (ground.env spS16) 100000 63 eS63_152.1 = some eS63_152.2 := by kernel_rfl
end Go.Proofs.YtmbhjdkbcgngiaaGreatDoor
