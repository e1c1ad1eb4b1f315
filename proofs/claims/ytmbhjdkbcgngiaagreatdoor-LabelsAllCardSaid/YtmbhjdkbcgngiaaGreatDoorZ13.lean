/- AX: the environment of the laws: the library's contracts, begun's known answer. Printed by le.py. -/
import Derived.Test.YtmbhjdkbcgngiaaGreatDoorZ4
import Derived.Test.YtmbhjdkbcgngiaaGreatDoorZ12
import Derived.KernelRfl
namespace Go.Proofs.YtmbhjdkbcgngiaaGreatDoor
open Go Go.Ax
noncomputable def spL : BT (List V → Option V) := (.node 155 (.node 131 (.leaf 9 (memoSpec t9)) (.leaf 131 specBack)) (.node 233 (.leaf 155 specSplit) (.node 273 (.leaf 233 specIndexByte) (.leaf 273 specCut))))
noncomputable def LE : Env := ground.env spL
theorem Lhs4 : LE.hspec 4 = none := by kernel_rfl
theorem Lsp4 : LE.spec 4 = none := by kernel_rfl
theorem Lfn4 : LE.fn 4 = some (fnOf Tryz.f4) := by kernel_rfl
theorem Lmd4 : LE.mode 4 = .iso := by kernel_rfl
theorem Lhs6 : LE.hspec 6 = none := by kernel_rfl
theorem Lsp6 : LE.spec 6 = none := by kernel_rfl
theorem Lfn6 : LE.fn 6 = some (fnOf Tryz.f6) := by kernel_rfl
theorem Lmd6 : LE.mode 6 = .iso := by kernel_rfl
theorem Lhs7 : LE.hspec 7 = none := by kernel_rfl
theorem Lsp7 : LE.spec 7 = none := by kernel_rfl
theorem Lfn7 : LE.fn 7 = some (fnOf Tryz.f7) := by kernel_rfl
theorem Lmd7 : LE.mode 7 = .iso := by kernel_rfl
theorem Lhs8 : LE.hspec 8 = none := by kernel_rfl
theorem Lsp8 : LE.spec 8 = none := by kernel_rfl
theorem Lfn8 : LE.fn 8 = some (fnOf Tryz.f8) := by kernel_rfl
theorem Lmd8 : LE.mode 8 = .iso := by kernel_rfl
theorem Lhs9 : LE.hspec 9 = none := by kernel_rfl
theorem Lsp9 : LE.spec 9 = some (memoSpec t9) := by kernel_rfl
theorem Lhs10 : LE.hspec 10 = none := by kernel_rfl
theorem Lsp10 : LE.spec 10 = none := by kernel_rfl
theorem Lfn10 : LE.fn 10 = some (fnOf Tryz.f10) := by kernel_rfl
theorem Lmd10 : LE.mode 10 = .iso := by kernel_rfl
theorem Lhs11 : LE.hspec 11 = none := by kernel_rfl
theorem Lsp11 : LE.spec 11 = none := by kernel_rfl
theorem Lfn11 : LE.fn 11 = some (fnOf Tryz.f11) := by kernel_rfl
theorem Lmd11 : LE.mode 11 = .shared := by kernel_rfl
theorem Lhs12 : LE.hspec 12 = none := by kernel_rfl
theorem Lsp12 : LE.spec 12 = none := by kernel_rfl
theorem Lfn12 : LE.fn 12 = some (fnOf Tryz.f12) := by kernel_rfl
theorem Lmd12 : LE.mode 12 = .shared := by kernel_rfl
theorem Lhs13 : LE.hspec 13 = none := by kernel_rfl
theorem Lsp13 : LE.spec 13 = none := by kernel_rfl
theorem Lfn13 : LE.fn 13 = some (fnOf Tryz.f13) := by kernel_rfl
theorem Lmd13 : LE.mode 13 = .iso := by kernel_rfl
theorem Lhs14 : LE.hspec 14 = none := by kernel_rfl
theorem Lsp14 : LE.spec 14 = none := by kernel_rfl
theorem Lfn14 : LE.fn 14 = some (fnOf Tryz.f14) := by kernel_rfl
theorem Lmd14 : LE.mode 14 = .shared := by kernel_rfl
theorem Lhs15 : LE.hspec 15 = none := by kernel_rfl
theorem Lsp15 : LE.spec 15 = none := by kernel_rfl
theorem Lfn15 : LE.fn 15 = some (fnOf Tryz.f15) := by kernel_rfl
theorem Lmd15 : LE.mode 15 = .iso := by kernel_rfl
theorem Lhs16 : LE.hspec 16 = none := by kernel_rfl
theorem Lsp16 : LE.spec 16 = none := by kernel_rfl
theorem Lfn16 : LE.fn 16 = some (fnOf Tryz.f16) := by kernel_rfl
theorem Lmd16 : LE.mode 16 = .iso := by kernel_rfl
theorem Lhs17 : LE.hspec 17 = none := by kernel_rfl
theorem Lsp17 : LE.spec 17 = none := by kernel_rfl
theorem Lfn17 : LE.fn 17 = some (fnOf Tryz.f17) := by kernel_rfl
theorem Lmd17 : LE.mode 17 = .iso := by kernel_rfl
theorem Lhs18 : LE.hspec 18 = none := by kernel_rfl
theorem Lsp18 : LE.spec 18 = none := by kernel_rfl
theorem Lfn18 : LE.fn 18 = some (fnOf Tryz.f18) := by kernel_rfl
theorem Lmd18 : LE.mode 18 = .iso := by kernel_rfl
theorem Lhs19 : LE.hspec 19 = none := by kernel_rfl
theorem Lsp19 : LE.spec 19 = none := by kernel_rfl
theorem Lfn19 : LE.fn 19 = some (fnOf Tryz.f19) := by kernel_rfl
theorem Lmd19 : LE.mode 19 = .iso := by kernel_rfl
theorem Lhs20 : LE.hspec 20 = none := by kernel_rfl
theorem Lsp20 : LE.spec 20 = none := by kernel_rfl
theorem Lfn20 : LE.fn 20 = some (fnOf Tryz.f20) := by kernel_rfl
theorem Lmd20 : LE.mode 20 = .iso := by kernel_rfl
theorem Lhs21 : LE.hspec 21 = none := by kernel_rfl
theorem Lsp21 : LE.spec 21 = none := by kernel_rfl
theorem Lfn21 : LE.fn 21 = some (fnOf Tryz.f21) := by kernel_rfl
theorem Lmd21 : LE.mode 21 = .iso := by kernel_rfl
theorem Lhs27 : LE.hspec 27 = none := by kernel_rfl
theorem Lsp27 : LE.spec 27 = none := by kernel_rfl
theorem Lfn27 : LE.fn 27 = some (fnOf Tryz.f27) := by kernel_rfl
theorem Lmd27 : LE.mode 27 = .iso := by kernel_rfl
theorem Lhs28 : LE.hspec 28 = none := by kernel_rfl
theorem Lsp28 : LE.spec 28 = none := by kernel_rfl
theorem Lfn28 : LE.fn 28 = some (fnOf Tryz.f28) := by kernel_rfl
theorem Lmd28 : LE.mode 28 = .iso := by kernel_rfl
theorem Lhs29 : LE.hspec 29 = none := by kernel_rfl
theorem Lsp29 : LE.spec 29 = none := by kernel_rfl
theorem Lfn29 : LE.fn 29 = some (fnOf Tryz.f29) := by kernel_rfl
theorem Lmd29 : LE.mode 29 = .iso := by kernel_rfl
theorem Lhs30 : LE.hspec 30 = none := by kernel_rfl
theorem Lsp30 : LE.spec 30 = none := by kernel_rfl
theorem Lfn30 : LE.fn 30 = some (fnOf Tryz.f30) := by kernel_rfl
theorem Lmd30 : LE.mode 30 = .iso := by kernel_rfl
theorem Lhs31 : LE.hspec 31 = none := by kernel_rfl
theorem Lsp31 : LE.spec 31 = none := by kernel_rfl
theorem Lfn31 : LE.fn 31 = some (fnOf Tryz.f31) := by kernel_rfl
theorem Lmd31 : LE.mode 31 = .iso := by kernel_rfl
theorem Lhs32 : LE.hspec 32 = none := by kernel_rfl
theorem Lsp32 : LE.spec 32 = none := by kernel_rfl
theorem Lfn32 : LE.fn 32 = some (fnOf Tryz.f32) := by kernel_rfl
theorem Lmd32 : LE.mode 32 = .iso := by kernel_rfl
theorem Lhs33 : LE.hspec 33 = none := by kernel_rfl
theorem Lsp33 : LE.spec 33 = none := by kernel_rfl
theorem Lfn33 : LE.fn 33 = some (fnOf Tryz.f33) := by kernel_rfl
theorem Lmd33 : LE.mode 33 = .iso := by kernel_rfl
theorem Lhs34 : LE.hspec 34 = none := by kernel_rfl
theorem Lsp34 : LE.spec 34 = none := by kernel_rfl
theorem Lfn34 : LE.fn 34 = some (fnOf Tryz.f34) := by kernel_rfl
theorem Lmd34 : LE.mode 34 = .iso := by kernel_rfl
theorem Lhs53 : LE.hspec 53 = some (hSortedLab 34 [95] [] 55) := by kernel_rfl
theorem Lhs54 : LE.hspec 54 = none := by kernel_rfl
theorem Lsp54 : LE.spec 54 = none := by kernel_rfl
theorem Lfn54 : LE.fn 54 = some (fnOf Tryz.f54) := by kernel_rfl
theorem Lmd54 : LE.mode 54 = .shared := by kernel_rfl
theorem Lhs55 : LE.hspec 55 = none := by kernel_rfl
theorem Lsp55 : LE.spec 55 = none := by kernel_rfl
theorem Lfn55 : LE.fn 55 = some (fnOf Tryz.f55) := by kernel_rfl
theorem Lmd55 : LE.mode 55 = .iso := by kernel_rfl
theorem Lhs56 : LE.hspec 56 = none := by kernel_rfl
theorem Lsp56 : LE.spec 56 = none := by kernel_rfl
theorem Lfn56 : LE.fn 56 = some (fnOf Tryz.f56) := by kernel_rfl
theorem Lmd56 : LE.mode 56 = .shared := by kernel_rfl
theorem Lhs66 : LE.hspec 66 = none := by kernel_rfl
theorem Lsp66 : LE.spec 66 = none := by kernel_rfl
theorem Lfn66 : LE.fn 66 = some (fnOf Tryz.f66) := by kernel_rfl
theorem Lmd66 : LE.mode 66 = .shared := by kernel_rfl
theorem Lhs67 : LE.hspec 67 = none := by kernel_rfl
theorem Lsp67 : LE.spec 67 = none := by kernel_rfl
theorem Lfn67 : LE.fn 67 = some (fnOf Tryz.f67) := by kernel_rfl
theorem Lmd67 : LE.mode 67 = .iso := by kernel_rfl
theorem Lhs68 : LE.hspec 68 = none := by kernel_rfl
theorem Lsp68 : LE.spec 68 = none := by kernel_rfl
theorem Lfn68 : LE.fn 68 = some (fnOf Tryz.f68) := by kernel_rfl
theorem Lmd68 : LE.mode 68 = .iso := by kernel_rfl
theorem Lhs69 : LE.hspec 69 = none := by kernel_rfl
theorem Lsp69 : LE.spec 69 = none := by kernel_rfl
theorem Lfn69 : LE.fn 69 = some (fnOf Tryz.f69) := by kernel_rfl
theorem Lmd69 : LE.mode 69 = .iso := by kernel_rfl
theorem Lhs80 : LE.hspec 80 = none := by kernel_rfl
theorem Lsp80 : LE.spec 80 = none := by kernel_rfl
theorem Lfn80 : LE.fn 80 = some (fnOf Tryz.f80) := by kernel_rfl
theorem Lmd80 : LE.mode 80 = .iso := by kernel_rfl
theorem Lhs96 : LE.hspec 96 = none := by kernel_rfl
theorem Lsp96 : LE.spec 96 = none := by kernel_rfl
theorem Lfn96 : LE.fn 96 = some (fnOf Tryz.f96) := by kernel_rfl
theorem Lmd96 : LE.mode 96 = .iso := by kernel_rfl
theorem Lhs127 : LE.hspec 127 = none := by kernel_rfl
theorem Lsp127 : LE.spec 127 = none := by kernel_rfl
theorem Lfn127 : LE.fn 127 = some (fnOf Tryz.f127) := by kernel_rfl
theorem Lmd127 : LE.mode 127 = .iso := by kernel_rfl
theorem Lty3 : LE.ty 3 = some { kd := .int .i64, size := 1, bytes := 8, zero := .int .i64 0 } := by kernel_rfl
theorem Lty4 : LE.ty 4 = some { kd := .bool, size := 1, bytes := 1, zero := .bool false } := by kernel_rfl
theorem Lty9 : LE.ty 9 = some { kd := .str, size := 1, bytes := 16, zero := .str [] } := by kernel_rfl
theorem Lty22 : LE.ty 22 = some { kd := .sl 34, size := 1, bytes := 24, zero := .nils } := by kernel_rfl
theorem Lty25 : LE.ty 25 = some { kd := .ptr 32, size := 1, bytes := 8, zero := .nilp } := by kernel_rfl
theorem Lty28 : LE.ty 28 = some { kd := .map 34 4, size := 1, bytes := 8, zero := .nilm } := by kernel_rfl
theorem Lty30 : LE.ty 30 = some { kd := .strct [(0, 28)], size := 1, bytes := 8, zero := .agg [.nilm] } := by kernel_rfl
theorem Lty32 : LE.ty 32 = some { kd := .strct [(0, 30)], size := 1, bytes := 8, zero := .agg [.nilm] } := by kernel_rfl
theorem Lty34 : LE.ty 34 = some { kd := .strct [(0, 4), (1, 9)], size := 2, bytes := 24, zero := .agg [.bool false, .str []] } := by kernel_rfl
theorem Lty61 : LE.ty 61 = some { kd := .ptr 30, size := 1, bytes := 8, zero := .nilp } := by kernel_rfl
theorem Leq34 : LE.eqs 34 = some [.bool, .str] := by kernel_rfl
end Go.Proofs.YtmbhjdkbcgngiaaGreatDoor
