/- AX: the environment of the laws: the library's contracts, begun's known answer. Printed by le.py. -/
import Derived.Test.YtmbhjdkbcgngiaaGreatDoorZ4
import Derived.Test.YtmbhjdkbcgngiaaGreatDoorZ11
import Derived.KernelRfl
namespace Go.Proofs.YtmbhjdkbcgngiaaGreatDoor
open Go Go.Ax
noncomputable def spL : BT (List V → Option V) := (.node 155 (.node 131 (.leaf 9 (memoSpec t9)) (.leaf 131 specBack)) (.node 233 (.leaf 155 specSplit) (.node 273 (.leaf 233 specIndexByte) (.leaf 273 specCut))))
noncomputable def LE : Env := ground.env spL
theorem Lhs2 : LE.hspec 2 = none := by kernel_rfl
theorem Lsp2 : LE.spec 2 = none := by kernel_rfl
theorem Lfn2 : LE.fn 2 = some (fnOf Tryz.f2) := by kernel_rfl
theorem Lmd2 : LE.mode 2 = .iso := by kernel_rfl
theorem Lhs3 : LE.hspec 3 = none := by kernel_rfl
theorem Lsp3 : LE.spec 3 = none := by kernel_rfl
theorem Lfn3 : LE.fn 3 = some (fnOf Tryz.f3) := by kernel_rfl
theorem Lmd3 : LE.mode 3 = .iso := by kernel_rfl
theorem Lhs4 : LE.hspec 4 = none := by kernel_rfl
theorem Lsp4 : LE.spec 4 = none := by kernel_rfl
theorem Lfn4 : LE.fn 4 = some (fnOf Tryz.f4) := by kernel_rfl
theorem Lmd4 : LE.mode 4 = .iso := by kernel_rfl
theorem Lhs5 : LE.hspec 5 = none := by kernel_rfl
theorem Lsp5 : LE.spec 5 = none := by kernel_rfl
theorem Lfn5 : LE.fn 5 = some (fnOf Tryz.f5) := by kernel_rfl
theorem Lmd5 : LE.mode 5 = .iso := by kernel_rfl
theorem Lhs6 : LE.hspec 6 = none := by kernel_rfl
theorem Lsp6 : LE.spec 6 = none := by kernel_rfl
theorem Lfn6 : LE.fn 6 = some (fnOf Tryz.f6) := by kernel_rfl
theorem Lmd6 : LE.mode 6 = .iso := by kernel_rfl
theorem Lhs7 : LE.hspec 7 = none := by kernel_rfl
theorem Lsp7 : LE.spec 7 = none := by kernel_rfl
theorem Lfn7 : LE.fn 7 = some (fnOf Tryz.f7) := by kernel_rfl
theorem Lmd7 : LE.mode 7 = .iso := by kernel_rfl
theorem Lhs8 : LE.hspec 8 = none := by kernel_rfl
theorem Lsp8 : LE.spec 8 = none := by kernel_rfl
theorem Lfn8 : LE.fn 8 = some (fnOf Tryz.f8) := by kernel_rfl
theorem Lmd8 : LE.mode 8 = .iso := by kernel_rfl
theorem Lhs9 : LE.hspec 9 = none := by kernel_rfl
theorem Lsp9 : LE.spec 9 = some (memoSpec t9) := by kernel_rfl
theorem Lhs10 : LE.hspec 10 = none := by kernel_rfl
theorem Lsp10 : LE.spec 10 = none := by kernel_rfl
theorem Lfn10 : LE.fn 10 = some (fnOf Tryz.f10) := by kernel_rfl
theorem Lmd10 : LE.mode 10 = .iso := by kernel_rfl
theorem Lhs11 : LE.hspec 11 = none := by kernel_rfl
theorem Lsp11 : LE.spec 11 = none := by kernel_rfl
theorem Lfn11 : LE.fn 11 = some (fnOf Tryz.f11) := by kernel_rfl
theorem Lmd11 : LE.mode 11 = .shared := by kernel_rfl
theorem Lhs12 : LE.hspec 12 = none := by kernel_rfl
theorem Lsp12 : LE.spec 12 = none := by kernel_rfl
theorem Lfn12 : LE.fn 12 = some (fnOf Tryz.f12) := by kernel_rfl
theorem Lmd12 : LE.mode 12 = .shared := by kernel_rfl
theorem Lhs13 : LE.hspec 13 = none := by kernel_rfl
theorem Lsp13 : LE.spec 13 = none := by kernel_rfl
theorem Lfn13 : LE.fn 13 = some (fnOf Tryz.f13) := by kernel_rfl
theorem Lmd13 : LE.mode 13 = .iso := by kernel_rfl
theorem Lhs14 : LE.hspec 14 = none := by kernel_rfl
theorem Lsp14 : LE.spec 14 = none := by kernel_rfl
theorem Lfn14 : LE.fn 14 = some (fnOf Tryz.f14) := by kernel_rfl
theorem Lmd14 : LE.mode 14 = .shared := by kernel_rfl
theorem Lhs15 : LE.hspec 15 = none := by kernel_rfl
theorem Lsp15 : LE.spec 15 = none := by kernel_rfl
theorem Lfn15 : LE.fn 15 = some (fnOf Tryz.f15) := by kernel_rfl
theorem Lmd15 : LE.mode 15 = .iso := by kernel_rfl
theorem Lhs16 : LE.hspec 16 = none := by kernel_rfl
theorem Lsp16 : LE.spec 16 = none := by kernel_rfl
theorem Lfn16 : LE.fn 16 = some (fnOf Tryz.f16) := by kernel_rfl
theorem Lmd16 : LE.mode 16 = .iso := by kernel_rfl
theorem Lhs17 : LE.hspec 17 = none := by kernel_rfl
theorem Lsp17 : LE.spec 17 = none := by kernel_rfl
theorem Lfn17 : LE.fn 17 = some (fnOf Tryz.f17) := by kernel_rfl
theorem Lmd17 : LE.mode 17 = .iso := by kernel_rfl
theorem Lhs18 : LE.hspec 18 = none := by kernel_rfl
theorem Lsp18 : LE.spec 18 = none := by kernel_rfl
theorem Lfn18 : LE.fn 18 = some (fnOf Tryz.f18) := by kernel_rfl
theorem Lmd18 : LE.mode 18 = .iso := by kernel_rfl
theorem Lhs19 : LE.hspec 19 = none := by kernel_rfl
theorem Lsp19 : LE.spec 19 = none := by kernel_rfl
theorem Lfn19 : LE.fn 19 = some (fnOf Tryz.f19) := by kernel_rfl
theorem Lmd19 : LE.mode 19 = .iso := by kernel_rfl
theorem Lhs20 : LE.hspec 20 = none := by kernel_rfl
theorem Lsp20 : LE.spec 20 = none := by kernel_rfl
theorem Lfn20 : LE.fn 20 = some (fnOf Tryz.f20) := by kernel_rfl
theorem Lmd20 : LE.mode 20 = .iso := by kernel_rfl
theorem Lhs21 : LE.hspec 21 = none := by kernel_rfl
theorem Lsp21 : LE.spec 21 = none := by kernel_rfl
theorem Lfn21 : LE.fn 21 = some (fnOf Tryz.f21) := by kernel_rfl
theorem Lmd21 : LE.mode 21 = .iso := by kernel_rfl
theorem Lhs22 : LE.hspec 22 = none := by kernel_rfl
theorem Lsp22 : LE.spec 22 = none := by kernel_rfl
theorem Lfn22 : LE.fn 22 = some (fnOf Tryz.f22) := by kernel_rfl
theorem Lmd22 : LE.mode 22 = .iso := by kernel_rfl
theorem Lhs23 : LE.hspec 23 = none := by kernel_rfl
theorem Lsp23 : LE.spec 23 = none := by kernel_rfl
theorem Lfn23 : LE.fn 23 = some (fnOf Tryz.f23) := by kernel_rfl
theorem Lmd23 : LE.mode 23 = .move := by kernel_rfl
theorem Lhs24 : LE.hspec 24 = none := by kernel_rfl
theorem Lsp24 : LE.spec 24 = none := by kernel_rfl
theorem Lfn24 : LE.fn 24 = some (fnOf Tryz.f24) := by kernel_rfl
theorem Lmd24 : LE.mode 24 = .iso := by kernel_rfl
theorem Lhs25 : LE.hspec 25 = none := by kernel_rfl
theorem Lsp25 : LE.spec 25 = none := by kernel_rfl
theorem Lfn25 : LE.fn 25 = some (fnOf Tryz.f25) := by kernel_rfl
theorem Lmd25 : LE.mode 25 = .iso := by kernel_rfl
theorem Lhs26 : LE.hspec 26 = none := by kernel_rfl
theorem Lsp26 : LE.spec 26 = none := by kernel_rfl
theorem Lfn26 : LE.fn 26 = some (fnOf Tryz.f26) := by kernel_rfl
theorem Lmd26 : LE.mode 26 = .iso := by kernel_rfl
theorem Lhs27 : LE.hspec 27 = none := by kernel_rfl
theorem Lsp27 : LE.spec 27 = none := by kernel_rfl
theorem Lfn27 : LE.fn 27 = some (fnOf Tryz.f27) := by kernel_rfl
theorem Lmd27 : LE.mode 27 = .iso := by kernel_rfl
theorem Lhs28 : LE.hspec 28 = none := by kernel_rfl
theorem Lsp28 : LE.spec 28 = none := by kernel_rfl
theorem Lfn28 : LE.fn 28 = some (fnOf Tryz.f28) := by kernel_rfl
theorem Lmd28 : LE.mode 28 = .iso := by kernel_rfl
theorem Lhs29 : LE.hspec 29 = none := by kernel_rfl
theorem Lsp29 : LE.spec 29 = none := by kernel_rfl
theorem Lfn29 : LE.fn 29 = some (fnOf Tryz.f29) := by kernel_rfl
theorem Lmd29 : LE.mode 29 = .iso := by kernel_rfl
theorem Lhs30 : LE.hspec 30 = none := by kernel_rfl
theorem Lsp30 : LE.spec 30 = none := by kernel_rfl
theorem Lfn30 : LE.fn 30 = some (fnOf Tryz.f30) := by kernel_rfl
theorem Lmd30 : LE.mode 30 = .iso := by kernel_rfl
theorem Lhs31 : LE.hspec 31 = none := by kernel_rfl
theorem Lsp31 : LE.spec 31 = none := by kernel_rfl
theorem Lfn31 : LE.fn 31 = some (fnOf Tryz.f31) := by kernel_rfl
theorem Lmd31 : LE.mode 31 = .iso := by kernel_rfl
theorem Lhs32 : LE.hspec 32 = none := by kernel_rfl
theorem Lsp32 : LE.spec 32 = none := by kernel_rfl
theorem Lfn32 : LE.fn 32 = some (fnOf Tryz.f32) := by kernel_rfl
theorem Lmd32 : LE.mode 32 = .iso := by kernel_rfl
theorem Lhs33 : LE.hspec 33 = none := by kernel_rfl
theorem Lsp33 : LE.spec 33 = none := by kernel_rfl
theorem Lfn33 : LE.fn 33 = some (fnOf Tryz.f33) := by kernel_rfl
theorem Lmd33 : LE.mode 33 = .iso := by kernel_rfl
theorem Lhs34 : LE.hspec 34 = none := by kernel_rfl
theorem Lsp34 : LE.spec 34 = none := by kernel_rfl
theorem Lfn34 : LE.fn 34 = some (fnOf Tryz.f34) := by kernel_rfl
theorem Lmd34 : LE.mode 34 = .iso := by kernel_rfl
theorem Lhs35 : LE.hspec 35 = none := by kernel_rfl
theorem Lsp35 : LE.spec 35 = none := by kernel_rfl
theorem Lfn35 : LE.fn 35 = some (fnOf Tryz.f35) := by kernel_rfl
theorem Lmd35 : LE.mode 35 = .iso := by kernel_rfl
theorem Lhs36 : LE.hspec 36 = none := by kernel_rfl
theorem Lsp36 : LE.spec 36 = none := by kernel_rfl
theorem Lfn36 : LE.fn 36 = some (fnOf Tryz.f36) := by kernel_rfl
theorem Lmd36 : LE.mode 36 = .iso := by kernel_rfl
theorem Lhs37 : LE.hspec 37 = none := by kernel_rfl
theorem Lsp37 : LE.spec 37 = none := by kernel_rfl
theorem Lfn37 : LE.fn 37 = some (fnOf Tryz.f37) := by kernel_rfl
theorem Lmd37 : LE.mode 37 = .iso := by kernel_rfl
theorem Lhs38 : LE.hspec 38 = none := by kernel_rfl
theorem Lsp38 : LE.spec 38 = none := by kernel_rfl
theorem Lfn38 : LE.fn 38 = some (fnOf Tryz.f38) := by kernel_rfl
theorem Lmd38 : LE.mode 38 = .iso := by kernel_rfl
theorem Lhs39 : LE.hspec 39 = none := by kernel_rfl
theorem Lsp39 : LE.spec 39 = none := by kernel_rfl
theorem Lfn39 : LE.fn 39 = some (fnOf Tryz.f39) := by kernel_rfl
theorem Lmd39 : LE.mode 39 = .iso := by kernel_rfl
theorem Lhs40 : LE.hspec 40 = none := by kernel_rfl
theorem Lsp40 : LE.spec 40 = none := by kernel_rfl
theorem Lfn40 : LE.fn 40 = some (fnOf Tryz.f40) := by kernel_rfl
theorem Lmd40 : LE.mode 40 = .iso := by kernel_rfl
theorem Lhs41 : LE.hspec 41 = none := by kernel_rfl
theorem Lsp41 : LE.spec 41 = none := by kernel_rfl
theorem Lfn41 : LE.fn 41 = some (fnOf Tryz.f41) := by kernel_rfl
theorem Lmd41 : LE.mode 41 = .iso := by kernel_rfl
theorem Lhs42 : LE.hspec 42 = none := by kernel_rfl
theorem Lsp42 : LE.spec 42 = none := by kernel_rfl
theorem Lfn42 : LE.fn 42 = some (fnOf Tryz.f42) := by kernel_rfl
theorem Lmd42 : LE.mode 42 = .iso := by kernel_rfl
theorem Lhs43 : LE.hspec 43 = none := by kernel_rfl
theorem Lsp43 : LE.spec 43 = none := by kernel_rfl
theorem Lfn43 : LE.fn 43 = some (fnOf Tryz.f43) := by kernel_rfl
theorem Lmd43 : LE.mode 43 = .iso := by kernel_rfl
theorem Lhs44 : LE.hspec 44 = none := by kernel_rfl
theorem Lsp44 : LE.spec 44 = none := by kernel_rfl
theorem Lfn44 : LE.fn 44 = some (fnOf Tryz.f44) := by kernel_rfl
theorem Lmd44 : LE.mode 44 = .iso := by kernel_rfl
theorem Lhs45 : LE.hspec 45 = none := by kernel_rfl
theorem Lsp45 : LE.spec 45 = none := by kernel_rfl
theorem Lfn45 : LE.fn 45 = some (fnOf Tryz.f45) := by kernel_rfl
theorem Lmd45 : LE.mode 45 = .iso := by kernel_rfl
theorem Lhs46 : LE.hspec 46 = none := by kernel_rfl
theorem Lsp46 : LE.spec 46 = none := by kernel_rfl
theorem Lfn46 : LE.fn 46 = some (fnOf Tryz.f46) := by kernel_rfl
theorem Lmd46 : LE.mode 46 = .iso := by kernel_rfl
theorem Lhs47 : LE.hspec 47 = none := by kernel_rfl
theorem Lsp47 : LE.spec 47 = none := by kernel_rfl
theorem Lfn47 : LE.fn 47 = some (fnOf Tryz.f47) := by kernel_rfl
theorem Lmd47 : LE.mode 47 = .iso := by kernel_rfl
theorem Lhs48 : LE.hspec 48 = none := by kernel_rfl
theorem Lsp48 : LE.spec 48 = none := by kernel_rfl
theorem Lfn48 : LE.fn 48 = some (fnOf Tryz.f48) := by kernel_rfl
theorem Lmd48 : LE.mode 48 = .iso := by kernel_rfl
theorem Lhs49 : LE.hspec 49 = none := by kernel_rfl
theorem Lsp49 : LE.spec 49 = none := by kernel_rfl
theorem Lfn49 : LE.fn 49 = some (fnOf Tryz.f49) := by kernel_rfl
theorem Lmd49 : LE.mode 49 = .iso := by kernel_rfl
theorem Lhs50 : LE.hspec 50 = none := by kernel_rfl
theorem Lsp50 : LE.spec 50 = none := by kernel_rfl
theorem Lfn50 : LE.fn 50 = some (fnOf Tryz.f50) := by kernel_rfl
theorem Lmd50 : LE.mode 50 = .iso := by kernel_rfl
theorem Lhs51 : LE.hspec 51 = none := by kernel_rfl
theorem Lsp51 : LE.spec 51 = none := by kernel_rfl
theorem Lfn51 : LE.fn 51 = some (fnOf Tryz.f51) := by kernel_rfl
theorem Lmd51 : LE.mode 51 = .iso := by kernel_rfl
theorem Lhs52 : LE.hspec 52 = none := by kernel_rfl
theorem Lsp52 : LE.spec 52 = none := by kernel_rfl
theorem Lfn52 : LE.fn 52 = some (fnOf Tryz.f52) := by kernel_rfl
theorem Lmd52 : LE.mode 52 = .iso := by kernel_rfl
theorem Lhs53 : LE.hspec 53 = some (hSortedLab 34 [95] [] 55) := by kernel_rfl
theorem Lhs54 : LE.hspec 54 = none := by kernel_rfl
theorem Lsp54 : LE.spec 54 = none := by kernel_rfl
theorem Lfn54 : LE.fn 54 = some (fnOf Tryz.f54) := by kernel_rfl
theorem Lmd54 : LE.mode 54 = .shared := by kernel_rfl
theorem Lhs55 : LE.hspec 55 = none := by kernel_rfl
theorem Lsp55 : LE.spec 55 = none := by kernel_rfl
theorem Lfn55 : LE.fn 55 = some (fnOf Tryz.f55) := by kernel_rfl
theorem Lmd55 : LE.mode 55 = .iso := by kernel_rfl
theorem Lhs56 : LE.hspec 56 = none := by kernel_rfl
theorem Lsp56 : LE.spec 56 = none := by kernel_rfl
theorem Lfn56 : LE.fn 56 = some (fnOf Tryz.f56) := by kernel_rfl
theorem Lmd56 : LE.mode 56 = .shared := by kernel_rfl
theorem Lhs57 : LE.hspec 57 = none := by kernel_rfl
theorem Lsp57 : LE.spec 57 = none := by kernel_rfl
theorem Lfn57 : LE.fn 57 = some (fnOf Tryz.f57) := by kernel_rfl
theorem Lmd57 : LE.mode 57 = .iso := by kernel_rfl
theorem Lhs58 : LE.hspec 58 = none := by kernel_rfl
theorem Lsp58 : LE.spec 58 = none := by kernel_rfl
theorem Lfn58 : LE.fn 58 = some (fnOf Tryz.f58) := by kernel_rfl
theorem Lmd58 : LE.mode 58 = .iso := by kernel_rfl
theorem Lhs59 : LE.hspec 59 = none := by kernel_rfl
theorem Lsp59 : LE.spec 59 = none := by kernel_rfl
theorem Lfn59 : LE.fn 59 = some (fnOf Tryz.f59) := by kernel_rfl
theorem Lmd59 : LE.mode 59 = .shared := by kernel_rfl
theorem Lhs60 : LE.hspec 60 = none := by kernel_rfl
theorem Lsp60 : LE.spec 60 = none := by kernel_rfl
theorem Lfn60 : LE.fn 60 = some (fnOf Tryz.f60) := by kernel_rfl
theorem Lmd60 : LE.mode 60 = .shared := by kernel_rfl
theorem Lhs61 : LE.hspec 61 = none := by kernel_rfl
theorem Lsp61 : LE.spec 61 = none := by kernel_rfl
theorem Lfn61 : LE.fn 61 = some (fnOf Tryz.f61) := by kernel_rfl
theorem Lmd61 : LE.mode 61 = .shared := by kernel_rfl
theorem Lhs62 : LE.hspec 62 = none := by kernel_rfl
theorem Lsp62 : LE.spec 62 = none := by kernel_rfl
theorem Lfn62 : LE.fn 62 = some (fnOf Tryz.f62) := by kernel_rfl
theorem Lmd62 : LE.mode 62 = .iso := by kernel_rfl
theorem Lhs63 : LE.hspec 63 = none := by kernel_rfl
theorem Lsp63 : LE.spec 63 = none := by kernel_rfl
theorem Lfn63 : LE.fn 63 = some (fnOf Tryz.f63) := by kernel_rfl
theorem Lmd63 : LE.mode 63 = .iso := by kernel_rfl
theorem Lhs64 : LE.hspec 64 = some (hSortedStr 9 [105, 292] [226]) := by kernel_rfl
theorem Lhs65 : LE.hspec 65 = none := by kernel_rfl
theorem Lsp65 : LE.spec 65 = none := by kernel_rfl
theorem Lfn65 : LE.fn 65 = some (fnOf Tryz.f65) := by kernel_rfl
theorem Lmd65 : LE.mode 65 = .shared := by kernel_rfl
theorem Lhs66 : LE.hspec 66 = none := by kernel_rfl
theorem Lsp66 : LE.spec 66 = none := by kernel_rfl
theorem Lfn66 : LE.fn 66 = some (fnOf Tryz.f66) := by kernel_rfl
theorem Lmd66 : LE.mode 66 = .shared := by kernel_rfl
theorem Lhs67 : LE.hspec 67 = none := by kernel_rfl
theorem Lsp67 : LE.spec 67 = none := by kernel_rfl
theorem Lfn67 : LE.fn 67 = some (fnOf Tryz.f67) := by kernel_rfl
theorem Lmd67 : LE.mode 67 = .iso := by kernel_rfl
theorem Lhs68 : LE.hspec 68 = none := by kernel_rfl
theorem Lsp68 : LE.spec 68 = none := by kernel_rfl
theorem Lfn68 : LE.fn 68 = some (fnOf Tryz.f68) := by kernel_rfl
theorem Lmd68 : LE.mode 68 = .iso := by kernel_rfl
theorem Lhs69 : LE.hspec 69 = none := by kernel_rfl
theorem Lsp69 : LE.spec 69 = none := by kernel_rfl
theorem Lfn69 : LE.fn 69 = some (fnOf Tryz.f69) := by kernel_rfl
theorem Lmd69 : LE.mode 69 = .iso := by kernel_rfl
theorem Lhs70 : LE.hspec 70 = none := by kernel_rfl
theorem Lsp70 : LE.spec 70 = none := by kernel_rfl
theorem Lfn70 : LE.fn 70 = some (fnOf Tryz.f70) := by kernel_rfl
theorem Lmd70 : LE.mode 70 = .iso := by kernel_rfl
theorem Lhs71 : LE.hspec 71 = none := by kernel_rfl
theorem Lsp71 : LE.spec 71 = none := by kernel_rfl
theorem Lfn71 : LE.fn 71 = some (fnOf Tryz.f71) := by kernel_rfl
theorem Lmd71 : LE.mode 71 = .iso := by kernel_rfl
theorem Lhs72 : LE.hspec 72 = none := by kernel_rfl
theorem Lsp72 : LE.spec 72 = none := by kernel_rfl
theorem Lfn72 : LE.fn 72 = some (fnOf Tryz.f72) := by kernel_rfl
theorem Lmd72 : LE.mode 72 = .iso := by kernel_rfl
theorem Lhs73 : LE.hspec 73 = none := by kernel_rfl
theorem Lsp73 : LE.spec 73 = none := by kernel_rfl
theorem Lfn73 : LE.fn 73 = some (fnOf Tryz.f73) := by kernel_rfl
theorem Lmd73 : LE.mode 73 = .iso := by kernel_rfl
theorem Lhs74 : LE.hspec 74 = none := by kernel_rfl
theorem Lsp74 : LE.spec 74 = none := by kernel_rfl
theorem Lfn74 : LE.fn 74 = some (fnOf Tryz.f74) := by kernel_rfl
theorem Lmd74 : LE.mode 74 = .shared := by kernel_rfl
theorem Lhs75 : LE.hspec 75 = none := by kernel_rfl
theorem Lsp75 : LE.spec 75 = none := by kernel_rfl
theorem Lfn75 : LE.fn 75 = some (fnOf Tryz.f75) := by kernel_rfl
theorem Lmd75 : LE.mode 75 = .iso := by kernel_rfl
theorem Lhs76 : LE.hspec 76 = none := by kernel_rfl
theorem Lsp76 : LE.spec 76 = none := by kernel_rfl
theorem Lfn76 : LE.fn 76 = some (fnOf Tryz.f76) := by kernel_rfl
theorem Lmd76 : LE.mode 76 = .iso := by kernel_rfl
theorem Lhs77 : LE.hspec 77 = none := by kernel_rfl
theorem Lsp77 : LE.spec 77 = none := by kernel_rfl
theorem Lfn77 : LE.fn 77 = some (fnOf Tryz.f77) := by kernel_rfl
theorem Lmd77 : LE.mode 77 = .iso := by kernel_rfl
theorem Lhs78 : LE.hspec 78 = none := by kernel_rfl
theorem Lsp78 : LE.spec 78 = none := by kernel_rfl
theorem Lfn78 : LE.fn 78 = some (fnOf Tryz.f78) := by kernel_rfl
theorem Lmd78 : LE.mode 78 = .iso := by kernel_rfl
theorem Lhs79 : LE.hspec 79 = none := by kernel_rfl
theorem Lsp79 : LE.spec 79 = none := by kernel_rfl
theorem Lfn79 : LE.fn 79 = some (fnOf Tryz.f79) := by kernel_rfl
theorem Lmd79 : LE.mode 79 = .iso := by kernel_rfl
theorem Lhs80 : LE.hspec 80 = none := by kernel_rfl
theorem Lsp80 : LE.spec 80 = none := by kernel_rfl
theorem Lfn80 : LE.fn 80 = some (fnOf Tryz.f80) := by kernel_rfl
theorem Lmd80 : LE.mode 80 = .iso := by kernel_rfl
theorem Lhs81 : LE.hspec 81 = none := by kernel_rfl
theorem Lsp81 : LE.spec 81 = none := by kernel_rfl
theorem Lfn81 : LE.fn 81 = some (fnOf Tryz.f81) := by kernel_rfl
theorem Lmd81 : LE.mode 81 = .iso := by kernel_rfl
theorem Lhs82 : LE.hspec 82 = none := by kernel_rfl
theorem Lsp82 : LE.spec 82 = none := by kernel_rfl
theorem Lfn82 : LE.fn 82 = some (fnOf Tryz.f82) := by kernel_rfl
theorem Lmd82 : LE.mode 82 = .iso := by kernel_rfl
theorem Lhs83 : LE.hspec 83 = none := by kernel_rfl
theorem Lsp83 : LE.spec 83 = none := by kernel_rfl
theorem Lfn83 : LE.fn 83 = some (fnOf Tryz.f83) := by kernel_rfl
theorem Lmd83 : LE.mode 83 = .iso := by kernel_rfl
theorem Lhs84 : LE.hspec 84 = none := by kernel_rfl
theorem Lsp84 : LE.spec 84 = none := by kernel_rfl
theorem Lfn84 : LE.fn 84 = some (fnOf Tryz.f84) := by kernel_rfl
theorem Lmd84 : LE.mode 84 = .shared := by kernel_rfl
theorem Lhs85 : LE.hspec 85 = none := by kernel_rfl
theorem Lsp85 : LE.spec 85 = none := by kernel_rfl
theorem Lfn85 : LE.fn 85 = some (fnOf Tryz.f85) := by kernel_rfl
theorem Lmd85 : LE.mode 85 = .iso := by kernel_rfl
theorem Lhs86 : LE.hspec 86 = none := by kernel_rfl
theorem Lsp86 : LE.spec 86 = none := by kernel_rfl
theorem Lfn86 : LE.fn 86 = some (fnOf Tryz.f86) := by kernel_rfl
theorem Lmd86 : LE.mode 86 = .iso := by kernel_rfl
theorem Lhs87 : LE.hspec 87 = none := by kernel_rfl
theorem Lsp87 : LE.spec 87 = none := by kernel_rfl
theorem Lfn87 : LE.fn 87 = some (fnOf Tryz.f87) := by kernel_rfl
theorem Lmd87 : LE.mode 87 = .iso := by kernel_rfl
theorem Lhs88 : LE.hspec 88 = none := by kernel_rfl
theorem Lsp88 : LE.spec 88 = none := by kernel_rfl
theorem Lfn88 : LE.fn 88 = some (fnOf Tryz.f88) := by kernel_rfl
theorem Lmd88 : LE.mode 88 = .iso := by kernel_rfl
theorem Lhs89 : LE.hspec 89 = none := by kernel_rfl
theorem Lsp89 : LE.spec 89 = none := by kernel_rfl
theorem Lfn89 : LE.fn 89 = some (fnOf Tryz.f89) := by kernel_rfl
theorem Lmd89 : LE.mode 89 = .iso := by kernel_rfl
theorem Lhs90 : LE.hspec 90 = none := by kernel_rfl
theorem Lsp90 : LE.spec 90 = none := by kernel_rfl
theorem Lfn90 : LE.fn 90 = some (fnOf Tryz.f90) := by kernel_rfl
theorem Lmd90 : LE.mode 90 = .iso := by kernel_rfl
theorem Lhs91 : LE.hspec 91 = none := by kernel_rfl
theorem Lsp91 : LE.spec 91 = none := by kernel_rfl
theorem Lfn91 : LE.fn 91 = some (fnOf Tryz.f91) := by kernel_rfl
theorem Lmd91 : LE.mode 91 = .shared := by kernel_rfl
theorem Lhs92 : LE.hspec 92 = none := by kernel_rfl
theorem Lsp92 : LE.spec 92 = none := by kernel_rfl
theorem Lfn92 : LE.fn 92 = some (fnOf Tryz.f92) := by kernel_rfl
theorem Lmd92 : LE.mode 92 = .shared := by kernel_rfl
theorem Lhs93 : LE.hspec 93 = none := by kernel_rfl
theorem Lsp93 : LE.spec 93 = none := by kernel_rfl
theorem Lfn93 : LE.fn 93 = some (fnOf Tryz.f93) := by kernel_rfl
theorem Lmd93 : LE.mode 93 = .iso := by kernel_rfl
theorem Lhs94 : LE.hspec 94 = none := by kernel_rfl
theorem Lsp94 : LE.spec 94 = none := by kernel_rfl
theorem Lfn94 : LE.fn 94 = some (fnOf Tryz.f94) := by kernel_rfl
theorem Lmd94 : LE.mode 94 = .shared := by kernel_rfl
theorem Lhs95 : LE.hspec 95 = none := by kernel_rfl
theorem Lsp95 : LE.spec 95 = none := by kernel_rfl
theorem Lfn95 : LE.fn 95 = some (fnOf Tryz.f95) := by kernel_rfl
theorem Lmd95 : LE.mode 95 = .shared := by kernel_rfl
theorem Lhs96 : LE.hspec 96 = none := by kernel_rfl
theorem Lsp96 : LE.spec 96 = none := by kernel_rfl
theorem Lfn96 : LE.fn 96 = some (fnOf Tryz.f96) := by kernel_rfl
theorem Lmd96 : LE.mode 96 = .iso := by kernel_rfl
theorem Lhs97 : LE.hspec 97 = none := by kernel_rfl
theorem Lsp97 : LE.spec 97 = none := by kernel_rfl
theorem Lfn97 : LE.fn 97 = some (fnOf Tryz.f97) := by kernel_rfl
theorem Lmd97 : LE.mode 97 = .iso := by kernel_rfl
theorem Lhs98 : LE.hspec 98 = none := by kernel_rfl
theorem Lsp98 : LE.spec 98 = none := by kernel_rfl
theorem Lfn98 : LE.fn 98 = some (fnOf Tryz.f98) := by kernel_rfl
theorem Lmd98 : LE.mode 98 = .iso := by kernel_rfl
theorem Lhs99 : LE.hspec 99 = some hCopy := by kernel_rfl
theorem Lhs100 : LE.hspec 100 = none := by kernel_rfl
theorem Lsp100 : LE.spec 100 = none := by kernel_rfl
theorem Lfn100 : LE.fn 100 = some (fnOf Tryz.f100) := by kernel_rfl
theorem Lmd100 : LE.mode 100 = .iso := by kernel_rfl
theorem Lhs101 : LE.hspec 101 = none := by kernel_rfl
theorem Lsp101 : LE.spec 101 = none := by kernel_rfl
theorem Lfn101 : LE.fn 101 = some (fnOf Tryz.f101) := by kernel_rfl
theorem Lmd101 : LE.mode 101 = .iso := by kernel_rfl
theorem Lhs102 : LE.hspec 102 = none := by kernel_rfl
theorem Lsp102 : LE.spec 102 = none := by kernel_rfl
theorem Lfn102 : LE.fn 102 = some (fnOf Tryz.f102) := by kernel_rfl
theorem Lmd102 : LE.mode 102 = .iso := by kernel_rfl
theorem Lhs103 : LE.hspec 103 = none := by kernel_rfl
theorem Lsp103 : LE.spec 103 = none := by kernel_rfl
theorem Lfn103 : LE.fn 103 = some (fnOf Tryz.f103) := by kernel_rfl
theorem Lmd103 : LE.mode 103 = .iso := by kernel_rfl
theorem Lhs104 : LE.hspec 104 = none := by kernel_rfl
theorem Lsp104 : LE.spec 104 = none := by kernel_rfl
theorem Lfn104 : LE.fn 104 = some (fnOf Tryz.f104) := by kernel_rfl
theorem Lmd104 : LE.mode 104 = .iso := by kernel_rfl
theorem Lhs105 : LE.hspec 105 = none := by kernel_rfl
theorem Lsp105 : LE.spec 105 = none := by kernel_rfl
theorem Lfn105 : LE.fn 105 = some (fnOf Tryz.f105) := by kernel_rfl
theorem Lmd105 : LE.mode 105 = .shared := by kernel_rfl
theorem Lhs106 : LE.hspec 106 = none := by kernel_rfl
theorem Lsp106 : LE.spec 106 = none := by kernel_rfl
theorem Lfn106 : LE.fn 106 = some (fnOf Tryz.f106) := by kernel_rfl
theorem Lmd106 : LE.mode 106 = .shared := by kernel_rfl
theorem Lhs107 : LE.hspec 107 = none := by kernel_rfl
theorem Lsp107 : LE.spec 107 = none := by kernel_rfl
theorem Lfn107 : LE.fn 107 = some (fnOf Tryz.f107) := by kernel_rfl
theorem Lmd107 : LE.mode 107 = .shared := by kernel_rfl
theorem Lhs108 : LE.hspec 108 = none := by kernel_rfl
theorem Lsp108 : LE.spec 108 = none := by kernel_rfl
theorem Lfn108 : LE.fn 108 = some (fnOf Tryz.f108) := by kernel_rfl
theorem Lmd108 : LE.mode 108 = .shared := by kernel_rfl
theorem Lhs109 : LE.hspec 109 = none := by kernel_rfl
theorem Lsp109 : LE.spec 109 = none := by kernel_rfl
theorem Lfn109 : LE.fn 109 = some (fnOf Tryz.f109) := by kernel_rfl
theorem Lmd109 : LE.mode 109 = .iso := by kernel_rfl
theorem Lhs110 : LE.hspec 110 = none := by kernel_rfl
theorem Lsp110 : LE.spec 110 = none := by kernel_rfl
theorem Lfn110 : LE.fn 110 = some (fnOf Tryz.f110) := by kernel_rfl
theorem Lmd110 : LE.mode 110 = .iso := by kernel_rfl
theorem Lhs111 : LE.hspec 111 = none := by kernel_rfl
theorem Lsp111 : LE.spec 111 = none := by kernel_rfl
theorem Lfn111 : LE.fn 111 = some (fnOf Tryz.f111) := by kernel_rfl
theorem Lmd111 : LE.mode 111 = .iso := by kernel_rfl
theorem Lhs112 : LE.hspec 112 = none := by kernel_rfl
theorem Lsp112 : LE.spec 112 = none := by kernel_rfl
theorem Lfn112 : LE.fn 112 = some (fnOf Tryz.f112) := by kernel_rfl
theorem Lmd112 : LE.mode 112 = .iso := by kernel_rfl
theorem Lhs113 : LE.hspec 113 = none := by kernel_rfl
theorem Lsp113 : LE.spec 113 = none := by kernel_rfl
theorem Lfn113 : LE.fn 113 = some (fnOf Tryz.f113) := by kernel_rfl
theorem Lmd113 : LE.mode 113 = .shared := by kernel_rfl
theorem Lhs114 : LE.hspec 114 = none := by kernel_rfl
theorem Lsp114 : LE.spec 114 = none := by kernel_rfl
theorem Lfn114 : LE.fn 114 = some (fnOf Tryz.f114) := by kernel_rfl
theorem Lmd114 : LE.mode 114 = .iso := by kernel_rfl
theorem Lhs115 : LE.hspec 115 = none := by kernel_rfl
theorem Lsp115 : LE.spec 115 = none := by kernel_rfl
theorem Lfn115 : LE.fn 115 = some (fnOf Tryz.f115) := by kernel_rfl
theorem Lmd115 : LE.mode 115 = .iso := by kernel_rfl
theorem Lhs116 : LE.hspec 116 = none := by kernel_rfl
theorem Lsp116 : LE.spec 116 = none := by kernel_rfl
theorem Lfn116 : LE.fn 116 = some (fnOf Tryz.f116) := by kernel_rfl
theorem Lmd116 : LE.mode 116 = .iso := by kernel_rfl
theorem Lhs117 : LE.hspec 117 = none := by kernel_rfl
theorem Lsp117 : LE.spec 117 = none := by kernel_rfl
theorem Lfn117 : LE.fn 117 = some (fnOf Tryz.f117) := by kernel_rfl
theorem Lmd117 : LE.mode 117 = .iso := by kernel_rfl
theorem Lhs118 : LE.hspec 118 = none := by kernel_rfl
theorem Lsp118 : LE.spec 118 = none := by kernel_rfl
theorem Lfn118 : LE.fn 118 = some (fnOf Tryz.f118) := by kernel_rfl
theorem Lmd118 : LE.mode 118 = .iso := by kernel_rfl
theorem Lhs119 : LE.hspec 119 = none := by kernel_rfl
theorem Lsp119 : LE.spec 119 = none := by kernel_rfl
theorem Lfn119 : LE.fn 119 = some (fnOf Tryz.f119) := by kernel_rfl
theorem Lmd119 : LE.mode 119 = .iso := by kernel_rfl
theorem Lhs120 : LE.hspec 120 = none := by kernel_rfl
theorem Lsp120 : LE.spec 120 = none := by kernel_rfl
theorem Lfn120 : LE.fn 120 = some (fnOf Tryz.f120) := by kernel_rfl
theorem Lmd120 : LE.mode 120 = .iso := by kernel_rfl
theorem Lhs121 : LE.hspec 121 = none := by kernel_rfl
theorem Lsp121 : LE.spec 121 = none := by kernel_rfl
theorem Lfn121 : LE.fn 121 = some (fnOf Tryz.f121) := by kernel_rfl
theorem Lmd121 : LE.mode 121 = .iso := by kernel_rfl
theorem Lhs122 : LE.hspec 122 = none := by kernel_rfl
theorem Lsp122 : LE.spec 122 = none := by kernel_rfl
theorem Lfn122 : LE.fn 122 = some (fnOf Tryz.f122) := by kernel_rfl
theorem Lmd122 : LE.mode 122 = .iso := by kernel_rfl
theorem Lhs123 : LE.hspec 123 = none := by kernel_rfl
theorem Lsp123 : LE.spec 123 = none := by kernel_rfl
theorem Lfn123 : LE.fn 123 = some (fnOf Tryz.f123) := by kernel_rfl
theorem Lmd123 : LE.mode 123 = .iso := by kernel_rfl
theorem Lhs124 : LE.hspec 124 = none := by kernel_rfl
theorem Lsp124 : LE.spec 124 = none := by kernel_rfl
theorem Lfn124 : LE.fn 124 = some (fnOf Tryz.f124) := by kernel_rfl
theorem Lmd124 : LE.mode 124 = .iso := by kernel_rfl
theorem Lhs125 : LE.hspec 125 = none := by kernel_rfl
theorem Lsp125 : LE.spec 125 = none := by kernel_rfl
theorem Lfn125 : LE.fn 125 = some (fnOf Tryz.f125) := by kernel_rfl
theorem Lmd125 : LE.mode 125 = .iso := by kernel_rfl
theorem Lhs126 : LE.hspec 126 = none := by kernel_rfl
theorem Lsp126 : LE.spec 126 = none := by kernel_rfl
theorem Lfn126 : LE.fn 126 = some (fnOf Tryz.f126) := by kernel_rfl
theorem Lmd126 : LE.mode 126 = .shared := by kernel_rfl
theorem Lhs127 : LE.hspec 127 = none := by kernel_rfl
theorem Lsp127 : LE.spec 127 = none := by kernel_rfl
theorem Lfn127 : LE.fn 127 = some (fnOf Tryz.f127) := by kernel_rfl
theorem Lmd127 : LE.mode 127 = .iso := by kernel_rfl
theorem Lhs128 : LE.hspec 128 = none := by kernel_rfl
theorem Lsp128 : LE.spec 128 = none := by kernel_rfl
theorem Lfn128 : LE.fn 128 = some (fnOf Tryz.f128) := by kernel_rfl
theorem Lmd128 : LE.mode 128 = .iso := by kernel_rfl
theorem Lhs129 : LE.hspec 129 = none := by kernel_rfl
theorem Lsp129 : LE.spec 129 = none := by kernel_rfl
theorem Lfn129 : LE.fn 129 = some (fnOf Tryz.f129) := by kernel_rfl
theorem Lmd129 : LE.mode 129 = .iso := by kernel_rfl
theorem Lhs130 : LE.hspec 130 = none := by kernel_rfl
theorem Lsp130 : LE.spec 130 = none := by kernel_rfl
theorem Lfn130 : LE.fn 130 = some (fnOf Tryz.f130) := by kernel_rfl
theorem Lmd130 : LE.mode 130 = .iso := by kernel_rfl
theorem Lhs131 : LE.hspec 131 = none := by kernel_rfl
theorem Lsp131 : LE.spec 131 = some specBack := by kernel_rfl
theorem Lhs132 : LE.hspec 132 = none := by kernel_rfl
theorem Lsp132 : LE.spec 132 = none := by kernel_rfl
theorem Lfn132 : LE.fn 132 = some (fnOf Tryz.f132) := by kernel_rfl
theorem Lmd132 : LE.mode 132 = .iso := by kernel_rfl
theorem Lhs133 : LE.hspec 133 = none := by kernel_rfl
theorem Lsp133 : LE.spec 133 = none := by kernel_rfl
theorem Lfn133 : LE.fn 133 = some (fnOf Tryz.f133) := by kernel_rfl
theorem Lmd133 : LE.mode 133 = .shared := by kernel_rfl
theorem Lhs134 : LE.hspec 134 = none := by kernel_rfl
theorem Lsp134 : LE.spec 134 = none := by kernel_rfl
theorem Lfn134 : LE.fn 134 = some (fnOf Tryz.f134) := by kernel_rfl
theorem Lmd134 : LE.mode 134 = .shared := by kernel_rfl
theorem Lhs135 : LE.hspec 135 = none := by kernel_rfl
theorem Lsp135 : LE.spec 135 = none := by kernel_rfl
theorem Lfn135 : LE.fn 135 = some (fnOf Tryz.f135) := by kernel_rfl
theorem Lmd135 : LE.mode 135 = .shared := by kernel_rfl
theorem Lhs136 : LE.hspec 136 = none := by kernel_rfl
theorem Lsp136 : LE.spec 136 = none := by kernel_rfl
theorem Lfn136 : LE.fn 136 = some (fnOf Tryz.f136) := by kernel_rfl
theorem Lmd136 : LE.mode 136 = .shared := by kernel_rfl
theorem Lhs137 : LE.hspec 137 = none := by kernel_rfl
theorem Lsp137 : LE.spec 137 = none := by kernel_rfl
theorem Lfn137 : LE.fn 137 = some (fnOf Tryz.f137) := by kernel_rfl
theorem Lmd137 : LE.mode 137 = .shared := by kernel_rfl
theorem Lhs138 : LE.hspec 138 = none := by kernel_rfl
theorem Lsp138 : LE.spec 138 = none := by kernel_rfl
theorem Lfn138 : LE.fn 138 = some (fnOf Tryz.f138) := by kernel_rfl
theorem Lmd138 : LE.mode 138 = .shared := by kernel_rfl
theorem Lhs139 : LE.hspec 139 = none := by kernel_rfl
theorem Lsp139 : LE.spec 139 = none := by kernel_rfl
theorem Lfn139 : LE.fn 139 = some (fnOf Tryz.f139) := by kernel_rfl
theorem Lmd139 : LE.mode 139 = .iso := by kernel_rfl
theorem Lhs140 : LE.hspec 140 = none := by kernel_rfl
theorem Lsp140 : LE.spec 140 = none := by kernel_rfl
theorem Lfn140 : LE.fn 140 = some (fnOf Tryz.f140) := by kernel_rfl
theorem Lmd140 : LE.mode 140 = .shared := by kernel_rfl
theorem Lhs141 : LE.hspec 141 = none := by kernel_rfl
theorem Lsp141 : LE.spec 141 = none := by kernel_rfl
theorem Lfn141 : LE.fn 141 = some (fnOf Tryz.f141) := by kernel_rfl
theorem Lmd141 : LE.mode 141 = .shared := by kernel_rfl
theorem Lhs142 : LE.hspec 142 = none := by kernel_rfl
theorem Lsp142 : LE.spec 142 = none := by kernel_rfl
theorem Lfn142 : LE.fn 142 = some (fnOf Tryz.f142) := by kernel_rfl
theorem Lmd142 : LE.mode 142 = .iso := by kernel_rfl
theorem Lhs143 : LE.hspec 143 = none := by kernel_rfl
theorem Lsp143 : LE.spec 143 = none := by kernel_rfl
theorem Lfn143 : LE.fn 143 = some (fnOf Tryz.f143) := by kernel_rfl
theorem Lmd143 : LE.mode 143 = .iso := by kernel_rfl
theorem Lhs144 : LE.hspec 144 = none := by kernel_rfl
theorem Lsp144 : LE.spec 144 = none := by kernel_rfl
theorem Lfn144 : LE.fn 144 = some (fnOf Tryz.f144) := by kernel_rfl
theorem Lmd144 : LE.mode 144 = .iso := by kernel_rfl
theorem Lhs145 : LE.hspec 145 = none := by kernel_rfl
theorem Lsp145 : LE.spec 145 = none := by kernel_rfl
theorem Lfn145 : LE.fn 145 = some (fnOf Tryz.f145) := by kernel_rfl
theorem Lmd145 : LE.mode 145 = .shared := by kernel_rfl
theorem Lhs146 : LE.hspec 146 = none := by kernel_rfl
theorem Lsp146 : LE.spec 146 = none := by kernel_rfl
theorem Lfn146 : LE.fn 146 = some (fnOf Tryz.f146) := by kernel_rfl
theorem Lmd146 : LE.mode 146 = .shared := by kernel_rfl
theorem Lhs147 : LE.hspec 147 = none := by kernel_rfl
theorem Lsp147 : LE.spec 147 = none := by kernel_rfl
theorem Lfn147 : LE.fn 147 = some (fnOf Tryz.f147) := by kernel_rfl
theorem Lmd147 : LE.mode 147 = .iso := by kernel_rfl
theorem Lhs148 : LE.hspec 148 = none := by kernel_rfl
theorem Lsp148 : LE.spec 148 = none := by kernel_rfl
theorem Lfn148 : LE.fn 148 = some (fnOf Tryz.f148) := by kernel_rfl
theorem Lmd148 : LE.mode 148 = .iso := by kernel_rfl
theorem Lhs149 : LE.hspec 149 = none := by kernel_rfl
theorem Lsp149 : LE.spec 149 = none := by kernel_rfl
theorem Lfn149 : LE.fn 149 = some (fnOf Tryz.f149) := by kernel_rfl
theorem Lmd149 : LE.mode 149 = .iso := by kernel_rfl
theorem Lhs150 : LE.hspec 150 = none := by kernel_rfl
theorem Lsp150 : LE.spec 150 = none := by kernel_rfl
theorem Lfn150 : LE.fn 150 = some (fnOf Tryz.f150) := by kernel_rfl
theorem Lmd150 : LE.mode 150 = .iso := by kernel_rfl
theorem Lhs151 : LE.hspec 151 = none := by kernel_rfl
theorem Lsp151 : LE.spec 151 = none := by kernel_rfl
theorem Lfn151 : LE.fn 151 = some (fnOf Tryz.f151) := by kernel_rfl
theorem Lmd151 : LE.mode 151 = .iso := by kernel_rfl
theorem Lhs152 : LE.hspec 152 = none := by kernel_rfl
theorem Lsp152 : LE.spec 152 = none := by kernel_rfl
theorem Lfn152 : LE.fn 152 = some (fnOf Tryz.f152) := by kernel_rfl
theorem Lmd152 : LE.mode 152 = .iso := by kernel_rfl
theorem Lhs153 : LE.hspec 153 = none := by kernel_rfl
theorem Lsp153 : LE.spec 153 = none := by kernel_rfl
theorem Lfn153 : LE.fn 153 = some (fnOf Tryz.f153) := by kernel_rfl
theorem Lmd153 : LE.mode 153 = .iso := by kernel_rfl
theorem Lhs154 : LE.hspec 154 = none := by kernel_rfl
theorem Lsp154 : LE.spec 154 = none := by kernel_rfl
theorem Lfn154 : LE.fn 154 = some (fnOf Tryz.f154) := by kernel_rfl
theorem Lmd154 : LE.mode 154 = .iso := by kernel_rfl
theorem Lhs155 : LE.hspec 155 = none := by kernel_rfl
theorem Lsp155 : LE.spec 155 = some specSplit := by kernel_rfl
theorem Lhs156 : LE.hspec 156 = none := by kernel_rfl
theorem Lsp156 : LE.spec 156 = none := by kernel_rfl
theorem Lfn156 : LE.fn 156 = some (fnOf Tryz.f156) := by kernel_rfl
theorem Lmd156 : LE.mode 156 = .iso := by kernel_rfl
theorem Lhs157 : LE.hspec 157 = none := by kernel_rfl
theorem Lsp157 : LE.spec 157 = none := by kernel_rfl
theorem Lfn157 : LE.fn 157 = some (fnOf Tryz.f157) := by kernel_rfl
theorem Lmd157 : LE.mode 157 = .shared := by kernel_rfl
theorem Lhs158 : LE.hspec 158 = none := by kernel_rfl
theorem Lsp158 : LE.spec 158 = none := by kernel_rfl
theorem Lfn158 : LE.fn 158 = some (fnOf Tryz.f158) := by kernel_rfl
theorem Lmd158 : LE.mode 158 = .shared := by kernel_rfl
theorem Lhs159 : LE.hspec 159 = none := by kernel_rfl
theorem Lsp159 : LE.spec 159 = none := by kernel_rfl
theorem Lfn159 : LE.fn 159 = some (fnOf Tryz.f159) := by kernel_rfl
theorem Lmd159 : LE.mode 159 = .shared := by kernel_rfl
theorem Lhs160 : LE.hspec 160 = none := by kernel_rfl
theorem Lsp160 : LE.spec 160 = none := by kernel_rfl
theorem Lfn160 : LE.fn 160 = some (fnOf Tryz.f160) := by kernel_rfl
theorem Lmd160 : LE.mode 160 = .shared := by kernel_rfl
theorem Lhs161 : LE.hspec 161 = none := by kernel_rfl
theorem Lsp161 : LE.spec 161 = none := by kernel_rfl
theorem Lfn161 : LE.fn 161 = some (fnOf Tryz.f161) := by kernel_rfl
theorem Lmd161 : LE.mode 161 = .shared := by kernel_rfl
theorem Lhs162 : LE.hspec 162 = none := by kernel_rfl
theorem Lsp162 : LE.spec 162 = none := by kernel_rfl
theorem Lfn162 : LE.fn 162 = some (fnOf Tryz.f162) := by kernel_rfl
theorem Lmd162 : LE.mode 162 = .shared := by kernel_rfl
theorem Lhs163 : LE.hspec 163 = none := by kernel_rfl
theorem Lsp163 : LE.spec 163 = none := by kernel_rfl
theorem Lfn163 : LE.fn 163 = some (fnOf Tryz.f163) := by kernel_rfl
theorem Lmd163 : LE.mode 163 = .shared := by kernel_rfl
theorem Lhs164 : LE.hspec 164 = none := by kernel_rfl
theorem Lsp164 : LE.spec 164 = none := by kernel_rfl
theorem Lfn164 : LE.fn 164 = some (fnOf Tryz.f164) := by kernel_rfl
theorem Lmd164 : LE.mode 164 = .shared := by kernel_rfl
theorem Lhs165 : LE.hspec 165 = none := by kernel_rfl
theorem Lsp165 : LE.spec 165 = none := by kernel_rfl
theorem Lfn165 : LE.fn 165 = some (fnOf Tryz.f165) := by kernel_rfl
theorem Lmd165 : LE.mode 165 = .shared := by kernel_rfl
theorem Lhs166 : LE.hspec 166 = none := by kernel_rfl
theorem Lsp166 : LE.spec 166 = none := by kernel_rfl
theorem Lfn166 : LE.fn 166 = some (fnOf Tryz.f166) := by kernel_rfl
theorem Lmd166 : LE.mode 166 = .shared := by kernel_rfl
theorem Lhs167 : LE.hspec 167 = none := by kernel_rfl
theorem Lsp167 : LE.spec 167 = none := by kernel_rfl
theorem Lfn167 : LE.fn 167 = some (fnOf Tryz.f167) := by kernel_rfl
theorem Lmd167 : LE.mode 167 = .iso := by kernel_rfl
theorem Lhs168 : LE.hspec 168 = none := by kernel_rfl
theorem Lsp168 : LE.spec 168 = none := by kernel_rfl
theorem Lfn168 : LE.fn 168 = some (fnOf Tryz.f168) := by kernel_rfl
theorem Lmd168 : LE.mode 168 = .shared := by kernel_rfl
theorem Lhs169 : LE.hspec 169 = none := by kernel_rfl
theorem Lsp169 : LE.spec 169 = none := by kernel_rfl
theorem Lfn169 : LE.fn 169 = some (fnOf Tryz.f169) := by kernel_rfl
theorem Lmd169 : LE.mode 169 = .shared := by kernel_rfl
theorem Lhs170 : LE.hspec 170 = none := by kernel_rfl
theorem Lsp170 : LE.spec 170 = none := by kernel_rfl
theorem Lfn170 : LE.fn 170 = some (fnOf Tryz.f170) := by kernel_rfl
theorem Lmd170 : LE.mode 170 = .shared := by kernel_rfl
theorem Lhs171 : LE.hspec 171 = none := by kernel_rfl
theorem Lsp171 : LE.spec 171 = none := by kernel_rfl
theorem Lfn171 : LE.fn 171 = some (fnOf Tryz.f171) := by kernel_rfl
theorem Lmd171 : LE.mode 171 = .iso := by kernel_rfl
theorem Lhs172 : LE.hspec 172 = none := by kernel_rfl
theorem Lsp172 : LE.spec 172 = none := by kernel_rfl
theorem Lfn172 : LE.fn 172 = some (fnOf Tryz.f172) := by kernel_rfl
theorem Lmd172 : LE.mode 172 = .iso := by kernel_rfl
theorem Lhs173 : LE.hspec 173 = none := by kernel_rfl
theorem Lsp173 : LE.spec 173 = none := by kernel_rfl
theorem Lfn173 : LE.fn 173 = some (fnOf Tryz.f173) := by kernel_rfl
theorem Lmd173 : LE.mode 173 = .iso := by kernel_rfl
theorem Lhs174 : LE.hspec 174 = none := by kernel_rfl
theorem Lsp174 : LE.spec 174 = none := by kernel_rfl
theorem Lfn174 : LE.fn 174 = some (fnOf Tryz.f174) := by kernel_rfl
theorem Lmd174 : LE.mode 174 = .iso := by kernel_rfl
theorem Lhs175 : LE.hspec 175 = none := by kernel_rfl
theorem Lsp175 : LE.spec 175 = none := by kernel_rfl
theorem Lfn175 : LE.fn 175 = some (fnOf Tryz.f175) := by kernel_rfl
theorem Lmd175 : LE.mode 175 = .iso := by kernel_rfl
theorem Lhs176 : LE.hspec 176 = none := by kernel_rfl
theorem Lsp176 : LE.spec 176 = none := by kernel_rfl
theorem Lfn176 : LE.fn 176 = some (fnOf Tryz.f176) := by kernel_rfl
theorem Lmd176 : LE.mode 176 = .iso := by kernel_rfl
theorem Lhs177 : LE.hspec 177 = none := by kernel_rfl
theorem Lsp177 : LE.spec 177 = none := by kernel_rfl
theorem Lfn177 : LE.fn 177 = some (fnOf Tryz.f177) := by kernel_rfl
theorem Lmd177 : LE.mode 177 = .iso := by kernel_rfl
theorem Lhs178 : LE.hspec 178 = none := by kernel_rfl
theorem Lsp178 : LE.spec 178 = none := by kernel_rfl
theorem Lfn178 : LE.fn 178 = some (fnOf Tryz.f178) := by kernel_rfl
theorem Lmd178 : LE.mode 178 = .iso := by kernel_rfl
theorem Lhs179 : LE.hspec 179 = none := by kernel_rfl
theorem Lsp179 : LE.spec 179 = none := by kernel_rfl
theorem Lfn179 : LE.fn 179 = some (fnOf Tryz.f179) := by kernel_rfl
theorem Lmd179 : LE.mode 179 = .iso := by kernel_rfl
theorem Lhs180 : LE.hspec 180 = none := by kernel_rfl
theorem Lsp180 : LE.spec 180 = none := by kernel_rfl
theorem Lfn180 : LE.fn 180 = some (fnOf Tryz.f180) := by kernel_rfl
theorem Lmd180 : LE.mode 180 = .iso := by kernel_rfl
theorem Lhs181 : LE.hspec 181 = none := by kernel_rfl
theorem Lsp181 : LE.spec 181 = none := by kernel_rfl
theorem Lfn181 : LE.fn 181 = some (fnOf Tryz.f181) := by kernel_rfl
theorem Lmd181 : LE.mode 181 = .iso := by kernel_rfl
theorem Lhs182 : LE.hspec 182 = none := by kernel_rfl
theorem Lsp182 : LE.spec 182 = none := by kernel_rfl
theorem Lfn182 : LE.fn 182 = some (fnOf Tryz.f182) := by kernel_rfl
theorem Lmd182 : LE.mode 182 = .iso := by kernel_rfl
theorem Lhs183 : LE.hspec 183 = none := by kernel_rfl
theorem Lsp183 : LE.spec 183 = none := by kernel_rfl
theorem Lfn183 : LE.fn 183 = some (fnOf Tryz.f183) := by kernel_rfl
theorem Lmd183 : LE.mode 183 = .iso := by kernel_rfl
theorem Lhs184 : LE.hspec 184 = none := by kernel_rfl
theorem Lsp184 : LE.spec 184 = none := by kernel_rfl
theorem Lfn184 : LE.fn 184 = some (fnOf Tryz.f184) := by kernel_rfl
theorem Lmd184 : LE.mode 184 = .iso := by kernel_rfl
theorem Lhs185 : LE.hspec 185 = none := by kernel_rfl
theorem Lsp185 : LE.spec 185 = none := by kernel_rfl
theorem Lfn185 : LE.fn 185 = some (fnOf Tryz.f185) := by kernel_rfl
theorem Lmd185 : LE.mode 185 = .iso := by kernel_rfl
theorem Lhs186 : LE.hspec 186 = none := by kernel_rfl
theorem Lsp186 : LE.spec 186 = none := by kernel_rfl
theorem Lfn186 : LE.fn 186 = some (fnOf Tryz.f186) := by kernel_rfl
theorem Lmd186 : LE.mode 186 = .iso := by kernel_rfl
theorem Lhs187 : LE.hspec 187 = none := by kernel_rfl
theorem Lsp187 : LE.spec 187 = none := by kernel_rfl
theorem Lfn187 : LE.fn 187 = some (fnOf Tryz.f187) := by kernel_rfl
theorem Lmd187 : LE.mode 187 = .iso := by kernel_rfl
theorem Lhs188 : LE.hspec 188 = none := by kernel_rfl
theorem Lsp188 : LE.spec 188 = none := by kernel_rfl
theorem Lfn188 : LE.fn 188 = some (fnOf Tryz.f188) := by kernel_rfl
theorem Lmd188 : LE.mode 188 = .iso := by kernel_rfl
theorem Lhs189 : LE.hspec 189 = none := by kernel_rfl
theorem Lsp189 : LE.spec 189 = none := by kernel_rfl
theorem Lfn189 : LE.fn 189 = some (fnOf Tryz.f189) := by kernel_rfl
theorem Lmd189 : LE.mode 189 = .iso := by kernel_rfl
theorem Lhs190 : LE.hspec 190 = none := by kernel_rfl
theorem Lsp190 : LE.spec 190 = none := by kernel_rfl
theorem Lfn190 : LE.fn 190 = some (fnOf Tryz.f190) := by kernel_rfl
theorem Lmd190 : LE.mode 190 = .iso := by kernel_rfl
theorem Lhs191 : LE.hspec 191 = none := by kernel_rfl
theorem Lsp191 : LE.spec 191 = none := by kernel_rfl
theorem Lfn191 : LE.fn 191 = some (fnOf Tryz.f191) := by kernel_rfl
theorem Lmd191 : LE.mode 191 = .iso := by kernel_rfl
theorem Lhs192 : LE.hspec 192 = none := by kernel_rfl
theorem Lsp192 : LE.spec 192 = none := by kernel_rfl
theorem Lfn192 : LE.fn 192 = some (fnOf Tryz.f192) := by kernel_rfl
theorem Lmd192 : LE.mode 192 = .iso := by kernel_rfl
theorem Lhs193 : LE.hspec 193 = none := by kernel_rfl
theorem Lsp193 : LE.spec 193 = none := by kernel_rfl
theorem Lfn193 : LE.fn 193 = some (fnOf Tryz.f193) := by kernel_rfl
theorem Lmd193 : LE.mode 193 = .shared := by kernel_rfl
theorem Lhs194 : LE.hspec 194 = none := by kernel_rfl
theorem Lsp194 : LE.spec 194 = none := by kernel_rfl
theorem Lfn194 : LE.fn 194 = some (fnOf Tryz.f194) := by kernel_rfl
theorem Lmd194 : LE.mode 194 = .shared := by kernel_rfl
theorem Lhs195 : LE.hspec 195 = none := by kernel_rfl
theorem Lsp195 : LE.spec 195 = none := by kernel_rfl
theorem Lfn195 : LE.fn 195 = some (fnOf Tryz.f195) := by kernel_rfl
theorem Lmd195 : LE.mode 195 = .shared := by kernel_rfl
theorem Lhs196 : LE.hspec 196 = none := by kernel_rfl
theorem Lsp196 : LE.spec 196 = none := by kernel_rfl
theorem Lfn196 : LE.fn 196 = some (fnOf Tryz.f196) := by kernel_rfl
theorem Lmd196 : LE.mode 196 = .shared := by kernel_rfl
theorem Lhs197 : LE.hspec 197 = none := by kernel_rfl
theorem Lsp197 : LE.spec 197 = none := by kernel_rfl
theorem Lfn197 : LE.fn 197 = some (fnOf Tryz.f197) := by kernel_rfl
theorem Lmd197 : LE.mode 197 = .iso := by kernel_rfl
theorem Lhs198 : LE.hspec 198 = none := by kernel_rfl
theorem Lsp198 : LE.spec 198 = none := by kernel_rfl
theorem Lfn198 : LE.fn 198 = some (fnOf Tryz.f198) := by kernel_rfl
theorem Lmd198 : LE.mode 198 = .shared := by kernel_rfl
theorem Lhs199 : LE.hspec 199 = none := by kernel_rfl
theorem Lsp199 : LE.spec 199 = none := by kernel_rfl
theorem Lfn199 : LE.fn 199 = some (fnOf Tryz.f199) := by kernel_rfl
theorem Lmd199 : LE.mode 199 = .iso := by kernel_rfl
theorem Lhs200 : LE.hspec 200 = none := by kernel_rfl
theorem Lsp200 : LE.spec 200 = none := by kernel_rfl
theorem Lfn200 : LE.fn 200 = some (fnOf Tryz.f200) := by kernel_rfl
theorem Lmd200 : LE.mode 200 = .iso := by kernel_rfl
theorem Lhs201 : LE.hspec 201 = none := by kernel_rfl
theorem Lsp201 : LE.spec 201 = none := by kernel_rfl
theorem Lfn201 : LE.fn 201 = some (fnOf Tryz.f201) := by kernel_rfl
theorem Lmd201 : LE.mode 201 = .iso := by kernel_rfl
theorem Lhs202 : LE.hspec 202 = none := by kernel_rfl
theorem Lsp202 : LE.spec 202 = none := by kernel_rfl
theorem Lfn202 : LE.fn 202 = some (fnOf Tryz.f202) := by kernel_rfl
theorem Lmd202 : LE.mode 202 = .iso := by kernel_rfl
theorem Lhs203 : LE.hspec 203 = none := by kernel_rfl
theorem Lsp203 : LE.spec 203 = none := by kernel_rfl
theorem Lfn203 : LE.fn 203 = some (fnOf Tryz.f203) := by kernel_rfl
theorem Lmd203 : LE.mode 203 = .iso := by kernel_rfl
theorem Lhs204 : LE.hspec 204 = none := by kernel_rfl
theorem Lsp204 : LE.spec 204 = none := by kernel_rfl
theorem Lfn204 : LE.fn 204 = some (fnOf Tryz.f204) := by kernel_rfl
theorem Lmd204 : LE.mode 204 = .iso := by kernel_rfl
theorem Lhs205 : LE.hspec 205 = none := by kernel_rfl
theorem Lsp205 : LE.spec 205 = none := by kernel_rfl
theorem Lfn205 : LE.fn 205 = some (fnOf Tryz.f205) := by kernel_rfl
theorem Lmd205 : LE.mode 205 = .iso := by kernel_rfl
theorem Lhs206 : LE.hspec 206 = none := by kernel_rfl
theorem Lsp206 : LE.spec 206 = none := by kernel_rfl
theorem Lfn206 : LE.fn 206 = some (fnOf Tryz.f206) := by kernel_rfl
theorem Lmd206 : LE.mode 206 = .iso := by kernel_rfl
theorem Lhs207 : LE.hspec 207 = none := by kernel_rfl
theorem Lsp207 : LE.spec 207 = none := by kernel_rfl
theorem Lfn207 : LE.fn 207 = some (fnOf Tryz.f207) := by kernel_rfl
theorem Lmd207 : LE.mode 207 = .iso := by kernel_rfl
theorem Lhs208 : LE.hspec 208 = none := by kernel_rfl
theorem Lsp208 : LE.spec 208 = none := by kernel_rfl
theorem Lfn208 : LE.fn 208 = some (fnOf Tryz.f208) := by kernel_rfl
theorem Lmd208 : LE.mode 208 = .shared := by kernel_rfl
theorem Lhs209 : LE.hspec 209 = none := by kernel_rfl
theorem Lsp209 : LE.spec 209 = none := by kernel_rfl
theorem Lfn209 : LE.fn 209 = some (fnOf Tryz.f209) := by kernel_rfl
theorem Lmd209 : LE.mode 209 = .shared := by kernel_rfl
theorem Lhs210 : LE.hspec 210 = none := by kernel_rfl
theorem Lsp210 : LE.spec 210 = none := by kernel_rfl
theorem Lfn210 : LE.fn 210 = some (fnOf Tryz.f210) := by kernel_rfl
theorem Lmd210 : LE.mode 210 = .iso := by kernel_rfl
theorem Lhs211 : LE.hspec 211 = none := by kernel_rfl
theorem Lsp211 : LE.spec 211 = none := by kernel_rfl
theorem Lfn211 : LE.fn 211 = some (fnOf Tryz.f211) := by kernel_rfl
theorem Lmd211 : LE.mode 211 = .iso := by kernel_rfl
theorem Lhs212 : LE.hspec 212 = none := by kernel_rfl
theorem Lsp212 : LE.spec 212 = none := by kernel_rfl
theorem Lfn212 : LE.fn 212 = some (fnOf Tryz.f212) := by kernel_rfl
theorem Lmd212 : LE.mode 212 = .iso := by kernel_rfl
theorem Lhs213 : LE.hspec 213 = none := by kernel_rfl
theorem Lsp213 : LE.spec 213 = none := by kernel_rfl
theorem Lfn213 : LE.fn 213 = some (fnOf Tryz.f213) := by kernel_rfl
theorem Lmd213 : LE.mode 213 = .iso := by kernel_rfl
theorem Lhs214 : LE.hspec 214 = none := by kernel_rfl
theorem Lsp214 : LE.spec 214 = none := by kernel_rfl
theorem Lfn214 : LE.fn 214 = some (fnOf Tryz.f214) := by kernel_rfl
theorem Lmd214 : LE.mode 214 = .iso := by kernel_rfl
theorem Lhs215 : LE.hspec 215 = none := by kernel_rfl
theorem Lsp215 : LE.spec 215 = none := by kernel_rfl
theorem Lfn215 : LE.fn 215 = some (fnOf Tryz.f215) := by kernel_rfl
theorem Lmd215 : LE.mode 215 = .iso := by kernel_rfl
theorem Lhs216 : LE.hspec 216 = none := by kernel_rfl
theorem Lsp216 : LE.spec 216 = none := by kernel_rfl
theorem Lfn216 : LE.fn 216 = some (fnOf Tryz.f216) := by kernel_rfl
theorem Lmd216 : LE.mode 216 = .shared := by kernel_rfl
theorem Lhs217 : LE.hspec 217 = none := by kernel_rfl
theorem Lsp217 : LE.spec 217 = none := by kernel_rfl
theorem Lfn217 : LE.fn 217 = some (fnOf Tryz.f217) := by kernel_rfl
theorem Lmd217 : LE.mode 217 = .iso := by kernel_rfl
theorem Lhs218 : LE.hspec 218 = none := by kernel_rfl
theorem Lsp218 : LE.spec 218 = none := by kernel_rfl
theorem Lfn218 : LE.fn 218 = some (fnOf Tryz.f218) := by kernel_rfl
theorem Lmd218 : LE.mode 218 = .iso := by kernel_rfl
theorem Lhs219 : LE.hspec 219 = none := by kernel_rfl
theorem Lsp219 : LE.spec 219 = none := by kernel_rfl
theorem Lfn219 : LE.fn 219 = some (fnOf Tryz.f219) := by kernel_rfl
theorem Lmd219 : LE.mode 219 = .iso := by kernel_rfl
theorem Lhs220 : LE.hspec 220 = none := by kernel_rfl
theorem Lsp220 : LE.spec 220 = none := by kernel_rfl
theorem Lfn220 : LE.fn 220 = some (fnOf Tryz.f220) := by kernel_rfl
theorem Lmd220 : LE.mode 220 = .iso := by kernel_rfl
theorem Lhs221 : LE.hspec 221 = none := by kernel_rfl
theorem Lsp221 : LE.spec 221 = none := by kernel_rfl
theorem Lfn221 : LE.fn 221 = some (fnOf Tryz.f221) := by kernel_rfl
theorem Lmd221 : LE.mode 221 = .iso := by kernel_rfl
theorem Lhs222 : LE.hspec 222 = none := by kernel_rfl
theorem Lsp222 : LE.spec 222 = none := by kernel_rfl
theorem Lfn222 : LE.fn 222 = some (fnOf Tryz.f222) := by kernel_rfl
theorem Lmd222 : LE.mode 222 = .iso := by kernel_rfl
theorem Lhs223 : LE.hspec 223 = none := by kernel_rfl
theorem Lsp223 : LE.spec 223 = none := by kernel_rfl
theorem Lfn223 : LE.fn 223 = some (fnOf Tryz.f223) := by kernel_rfl
theorem Lmd223 : LE.mode 223 = .shared := by kernel_rfl
theorem Lhs224 : LE.hspec 224 = none := by kernel_rfl
theorem Lsp224 : LE.spec 224 = none := by kernel_rfl
theorem Lfn224 : LE.fn 224 = some (fnOf Tryz.f224) := by kernel_rfl
theorem Lmd224 : LE.mode 224 = .shared := by kernel_rfl
theorem Lhs225 : LE.hspec 225 = none := by kernel_rfl
theorem Lsp225 : LE.spec 225 = none := by kernel_rfl
theorem Lfn225 : LE.fn 225 = some (fnOf Tryz.f225) := by kernel_rfl
theorem Lmd225 : LE.mode 225 = .shared := by kernel_rfl
theorem Lhs226 : LE.hspec 226 = none := by kernel_rfl
theorem Lsp226 : LE.spec 226 = none := by kernel_rfl
theorem Lfn226 : LE.fn 226 = some (fnOf Tryz.f226) := by kernel_rfl
theorem Lmd226 : LE.mode 226 = .shared := by kernel_rfl
theorem Lhs227 : LE.hspec 227 = none := by kernel_rfl
theorem Lsp227 : LE.spec 227 = none := by kernel_rfl
theorem Lfn227 : LE.fn 227 = some (fnOf Tryz.f227) := by kernel_rfl
theorem Lmd227 : LE.mode 227 = .iso := by kernel_rfl
theorem Lhs228 : LE.hspec 228 = none := by kernel_rfl
theorem Lsp228 : LE.spec 228 = none := by kernel_rfl
theorem Lfn228 : LE.fn 228 = some (fnOf Tryz.f228) := by kernel_rfl
theorem Lmd228 : LE.mode 228 = .shared := by kernel_rfl
theorem Lhs229 : LE.hspec 229 = none := by kernel_rfl
theorem Lsp229 : LE.spec 229 = none := by kernel_rfl
theorem Lfn229 : LE.fn 229 = some (fnOf Tryz.f229) := by kernel_rfl
theorem Lmd229 : LE.mode 229 = .iso := by kernel_rfl
theorem Lhs230 : LE.hspec 230 = none := by kernel_rfl
theorem Lsp230 : LE.spec 230 = none := by kernel_rfl
theorem Lfn230 : LE.fn 230 = some (fnOf Tryz.f230) := by kernel_rfl
theorem Lmd230 : LE.mode 230 = .iso := by kernel_rfl
theorem Lhs231 : LE.hspec 231 = none := by kernel_rfl
theorem Lsp231 : LE.spec 231 = none := by kernel_rfl
theorem Lfn231 : LE.fn 231 = some (fnOf Tryz.f231) := by kernel_rfl
theorem Lmd231 : LE.mode 231 = .iso := by kernel_rfl
theorem Lhs232 : LE.hspec 232 = none := by kernel_rfl
theorem Lsp232 : LE.spec 232 = none := by kernel_rfl
theorem Lfn232 : LE.fn 232 = some (fnOf Tryz.f232) := by kernel_rfl
theorem Lmd232 : LE.mode 232 = .iso := by kernel_rfl
theorem Lhs233 : LE.hspec 233 = none := by kernel_rfl
theorem Lsp233 : LE.spec 233 = some specIndexByte := by kernel_rfl
theorem Lhs234 : LE.hspec 234 = none := by kernel_rfl
theorem Lsp234 : LE.spec 234 = none := by kernel_rfl
theorem Lfn234 : LE.fn 234 = some (fnOf Tryz.f234) := by kernel_rfl
theorem Lmd234 : LE.mode 234 = .iso := by kernel_rfl
theorem Lhs235 : LE.hspec 235 = none := by kernel_rfl
theorem Lsp235 : LE.spec 235 = none := by kernel_rfl
theorem Lfn235 : LE.fn 235 = some (fnOf Tryz.f235) := by kernel_rfl
theorem Lmd235 : LE.mode 235 = .iso := by kernel_rfl
theorem Lhs236 : LE.hspec 236 = none := by kernel_rfl
theorem Lsp236 : LE.spec 236 = none := by kernel_rfl
theorem Lfn236 : LE.fn 236 = some (fnOf Tryz.f236) := by kernel_rfl
theorem Lmd236 : LE.mode 236 = .shared := by kernel_rfl
theorem Lhs237 : LE.hspec 237 = none := by kernel_rfl
theorem Lsp237 : LE.spec 237 = none := by kernel_rfl
theorem Lfn237 : LE.fn 237 = some (fnOf Tryz.f237) := by kernel_rfl
theorem Lmd237 : LE.mode 237 = .shared := by kernel_rfl
theorem Lhs238 : LE.hspec 238 = none := by kernel_rfl
theorem Lsp238 : LE.spec 238 = none := by kernel_rfl
theorem Lfn238 : LE.fn 238 = some (fnOf Tryz.f238) := by kernel_rfl
theorem Lmd238 : LE.mode 238 = .shared := by kernel_rfl
theorem Lhs239 : LE.hspec 239 = none := by kernel_rfl
theorem Lsp239 : LE.spec 239 = none := by kernel_rfl
theorem Lfn239 : LE.fn 239 = some (fnOf Tryz.f239) := by kernel_rfl
theorem Lmd239 : LE.mode 239 = .shared := by kernel_rfl
theorem Lhs240 : LE.hspec 240 = none := by kernel_rfl
theorem Lsp240 : LE.spec 240 = none := by kernel_rfl
theorem Lfn240 : LE.fn 240 = some (fnOf Tryz.f240) := by kernel_rfl
theorem Lmd240 : LE.mode 240 = .shared := by kernel_rfl
theorem Lhs241 : LE.hspec 241 = none := by kernel_rfl
theorem Lsp241 : LE.spec 241 = none := by kernel_rfl
theorem Lfn241 : LE.fn 241 = some (fnOf Tryz.f241) := by kernel_rfl
theorem Lmd241 : LE.mode 241 = .shared := by kernel_rfl
theorem Lhs242 : LE.hspec 242 = none := by kernel_rfl
theorem Lsp242 : LE.spec 242 = none := by kernel_rfl
theorem Lfn242 : LE.fn 242 = some (fnOf Tryz.f242) := by kernel_rfl
theorem Lmd242 : LE.mode 242 = .iso := by kernel_rfl
theorem Lhs243 : LE.hspec 243 = none := by kernel_rfl
theorem Lsp243 : LE.spec 243 = none := by kernel_rfl
theorem Lfn243 : LE.fn 243 = some (fnOf Tryz.f243) := by kernel_rfl
theorem Lmd243 : LE.mode 243 = .iso := by kernel_rfl
theorem Lhs244 : LE.hspec 244 = none := by kernel_rfl
theorem Lsp244 : LE.spec 244 = none := by kernel_rfl
theorem Lfn244 : LE.fn 244 = some (fnOf Tryz.f244) := by kernel_rfl
theorem Lmd244 : LE.mode 244 = .iso := by kernel_rfl
theorem Lhs245 : LE.hspec 245 = none := by kernel_rfl
theorem Lsp245 : LE.spec 245 = none := by kernel_rfl
theorem Lfn245 : LE.fn 245 = some (fnOf Tryz.f245) := by kernel_rfl
theorem Lmd245 : LE.mode 245 = .iso := by kernel_rfl
theorem Lhs246 : LE.hspec 246 = none := by kernel_rfl
theorem Lsp246 : LE.spec 246 = none := by kernel_rfl
theorem Lfn246 : LE.fn 246 = some (fnOf Tryz.f246) := by kernel_rfl
theorem Lmd246 : LE.mode 246 = .iso := by kernel_rfl
theorem Lhs247 : LE.hspec 247 = none := by kernel_rfl
theorem Lsp247 : LE.spec 247 = none := by kernel_rfl
theorem Lfn247 : LE.fn 247 = some (fnOf Tryz.f247) := by kernel_rfl
theorem Lmd247 : LE.mode 247 = .iso := by kernel_rfl
theorem Lhs248 : LE.hspec 248 = none := by kernel_rfl
theorem Lsp248 : LE.spec 248 = none := by kernel_rfl
theorem Lfn248 : LE.fn 248 = some (fnOf Tryz.f248) := by kernel_rfl
theorem Lmd248 : LE.mode 248 = .iso := by kernel_rfl
theorem Lhs249 : LE.hspec 249 = none := by kernel_rfl
theorem Lsp249 : LE.spec 249 = none := by kernel_rfl
theorem Lfn249 : LE.fn 249 = some (fnOf Tryz.f249) := by kernel_rfl
theorem Lmd249 : LE.mode 249 = .iso := by kernel_rfl
theorem Lhs250 : LE.hspec 250 = none := by kernel_rfl
theorem Lsp250 : LE.spec 250 = none := by kernel_rfl
theorem Lfn250 : LE.fn 250 = some (fnOf Tryz.f250) := by kernel_rfl
theorem Lmd250 : LE.mode 250 = .iso := by kernel_rfl
theorem Lhs251 : LE.hspec 251 = none := by kernel_rfl
theorem Lsp251 : LE.spec 251 = none := by kernel_rfl
theorem Lfn251 : LE.fn 251 = some (fnOf Tryz.f251) := by kernel_rfl
theorem Lmd251 : LE.mode 251 = .iso := by kernel_rfl
theorem Lhs252 : LE.hspec 252 = none := by kernel_rfl
theorem Lsp252 : LE.spec 252 = none := by kernel_rfl
theorem Lfn252 : LE.fn 252 = some (fnOf Tryz.f252) := by kernel_rfl
theorem Lmd252 : LE.mode 252 = .iso := by kernel_rfl
theorem Lhs253 : LE.hspec 253 = none := by kernel_rfl
theorem Lsp253 : LE.spec 253 = none := by kernel_rfl
theorem Lfn253 : LE.fn 253 = some (fnOf Tryz.f253) := by kernel_rfl
theorem Lmd253 : LE.mode 253 = .iso := by kernel_rfl
theorem Lhs254 : LE.hspec 254 = none := by kernel_rfl
theorem Lsp254 : LE.spec 254 = none := by kernel_rfl
theorem Lfn254 : LE.fn 254 = some (fnOf Tryz.f254) := by kernel_rfl
theorem Lmd254 : LE.mode 254 = .iso := by kernel_rfl
theorem Lhs255 : LE.hspec 255 = none := by kernel_rfl
theorem Lsp255 : LE.spec 255 = none := by kernel_rfl
theorem Lfn255 : LE.fn 255 = some (fnOf Tryz.f255) := by kernel_rfl
theorem Lmd255 : LE.mode 255 = .iso := by kernel_rfl
theorem Lhs256 : LE.hspec 256 = none := by kernel_rfl
theorem Lsp256 : LE.spec 256 = none := by kernel_rfl
theorem Lfn256 : LE.fn 256 = some (fnOf Tryz.f256) := by kernel_rfl
theorem Lmd256 : LE.mode 256 = .iso := by kernel_rfl
theorem Lhs257 : LE.hspec 257 = none := by kernel_rfl
theorem Lsp257 : LE.spec 257 = none := by kernel_rfl
theorem Lfn257 : LE.fn 257 = some (fnOf Tryz.f257) := by kernel_rfl
theorem Lmd257 : LE.mode 257 = .shared := by kernel_rfl
theorem Lhs258 : LE.hspec 258 = none := by kernel_rfl
theorem Lsp258 : LE.spec 258 = none := by kernel_rfl
theorem Lfn258 : LE.fn 258 = some (fnOf Tryz.f258) := by kernel_rfl
theorem Lmd258 : LE.mode 258 = .iso := by kernel_rfl
theorem Lhs259 : LE.hspec 259 = none := by kernel_rfl
theorem Lsp259 : LE.spec 259 = none := by kernel_rfl
theorem Lfn259 : LE.fn 259 = some (fnOf Tryz.f259) := by kernel_rfl
theorem Lmd259 : LE.mode 259 = .iso := by kernel_rfl
theorem Lhs261 : LE.hspec 261 = none := by kernel_rfl
theorem Lsp261 : LE.spec 261 = none := by kernel_rfl
theorem Lfn261 : LE.fn 261 = some (fnOf Tryz.f261) := by kernel_rfl
theorem Lmd261 : LE.mode 261 = .iso := by kernel_rfl
theorem Lhs262 : LE.hspec 262 = none := by kernel_rfl
theorem Lsp262 : LE.spec 262 = none := by kernel_rfl
theorem Lfn262 : LE.fn 262 = some (fnOf Tryz.f262) := by kernel_rfl
theorem Lmd262 : LE.mode 262 = .shared := by kernel_rfl
theorem Lhs263 : LE.hspec 263 = none := by kernel_rfl
theorem Lsp263 : LE.spec 263 = none := by kernel_rfl
theorem Lfn263 : LE.fn 263 = some (fnOf Tryz.f263) := by kernel_rfl
theorem Lmd263 : LE.mode 263 = .iso := by kernel_rfl
theorem Lhs264 : LE.hspec 264 = none := by kernel_rfl
theorem Lsp264 : LE.spec 264 = none := by kernel_rfl
theorem Lfn264 : LE.fn 264 = some (fnOf Tryz.f264) := by kernel_rfl
theorem Lmd264 : LE.mode 264 = .shared := by kernel_rfl
theorem Lhs265 : LE.hspec 265 = none := by kernel_rfl
theorem Lsp265 : LE.spec 265 = none := by kernel_rfl
theorem Lfn265 : LE.fn 265 = some (fnOf Tryz.f265) := by kernel_rfl
theorem Lmd265 : LE.mode 265 = .iso := by kernel_rfl
theorem Lhs266 : LE.hspec 266 = none := by kernel_rfl
theorem Lsp266 : LE.spec 266 = none := by kernel_rfl
theorem Lfn266 : LE.fn 266 = some (fnOf Tryz.f266) := by kernel_rfl
theorem Lmd266 : LE.mode 266 = .iso := by kernel_rfl
theorem Lhs267 : LE.hspec 267 = none := by kernel_rfl
theorem Lsp267 : LE.spec 267 = none := by kernel_rfl
theorem Lfn267 : LE.fn 267 = some (fnOf Tryz.f267) := by kernel_rfl
theorem Lmd267 : LE.mode 267 = .iso := by kernel_rfl
theorem Lhs268 : LE.hspec 268 = none := by kernel_rfl
theorem Lsp268 : LE.spec 268 = none := by kernel_rfl
theorem Lfn268 : LE.fn 268 = some (fnOf Tryz.f268) := by kernel_rfl
theorem Lmd268 : LE.mode 268 = .shared := by kernel_rfl
theorem Lhs269 : LE.hspec 269 = none := by kernel_rfl
theorem Lsp269 : LE.spec 269 = none := by kernel_rfl
theorem Lfn269 : LE.fn 269 = some (fnOf Tryz.f269) := by kernel_rfl
theorem Lmd269 : LE.mode 269 = .shared := by kernel_rfl
theorem Lhs270 : LE.hspec 270 = none := by kernel_rfl
theorem Lsp270 : LE.spec 270 = none := by kernel_rfl
theorem Lfn270 : LE.fn 270 = some (fnOf Tryz.f270) := by kernel_rfl
theorem Lmd270 : LE.mode 270 = .shared := by kernel_rfl
theorem Lhs271 : LE.hspec 271 = none := by kernel_rfl
theorem Lsp271 : LE.spec 271 = none := by kernel_rfl
theorem Lfn271 : LE.fn 271 = some (fnOf Tryz.f271) := by kernel_rfl
theorem Lmd271 : LE.mode 271 = .shared := by kernel_rfl
theorem Lhs272 : LE.hspec 272 = none := by kernel_rfl
theorem Lsp272 : LE.spec 272 = none := by kernel_rfl
theorem Lfn272 : LE.fn 272 = some (fnOf Tryz.f272) := by kernel_rfl
theorem Lmd272 : LE.mode 272 = .shared := by kernel_rfl
theorem Lhs273 : LE.hspec 273 = none := by kernel_rfl
theorem Lsp273 : LE.spec 273 = some specCut := by kernel_rfl
theorem Lhs274 : LE.hspec 274 = none := by kernel_rfl
theorem Lsp274 : LE.spec 274 = none := by kernel_rfl
theorem Lfn274 : LE.fn 274 = some (fnOf Tryz.f274) := by kernel_rfl
theorem Lmd274 : LE.mode 274 = .iso := by kernel_rfl
theorem Lhs275 : LE.hspec 275 = none := by kernel_rfl
theorem Lsp275 : LE.spec 275 = none := by kernel_rfl
theorem Lfn275 : LE.fn 275 = some (fnOf Tryz.f275) := by kernel_rfl
theorem Lmd275 : LE.mode 275 = .iso := by kernel_rfl
theorem Lhs276 : LE.hspec 276 = none := by kernel_rfl
theorem Lsp276 : LE.spec 276 = none := by kernel_rfl
theorem Lfn276 : LE.fn 276 = some (fnOf Tryz.f276) := by kernel_rfl
theorem Lmd276 : LE.mode 276 = .shared := by kernel_rfl
theorem Lhs277 : LE.hspec 277 = none := by kernel_rfl
theorem Lsp277 : LE.spec 277 = none := by kernel_rfl
theorem Lfn277 : LE.fn 277 = some (fnOf Tryz.f277) := by kernel_rfl
theorem Lmd277 : LE.mode 277 = .shared := by kernel_rfl
theorem Lhs278 : LE.hspec 278 = none := by kernel_rfl
theorem Lsp278 : LE.spec 278 = none := by kernel_rfl
theorem Lfn278 : LE.fn 278 = some (fnOf Tryz.f278) := by kernel_rfl
theorem Lmd278 : LE.mode 278 = .shared := by kernel_rfl
theorem Lhs279 : LE.hspec 279 = none := by kernel_rfl
theorem Lsp279 : LE.spec 279 = none := by kernel_rfl
theorem Lfn279 : LE.fn 279 = some (fnOf Tryz.f279) := by kernel_rfl
theorem Lmd279 : LE.mode 279 = .iso := by kernel_rfl
theorem Lhs281 : LE.hspec 281 = none := by kernel_rfl
theorem Lsp281 : LE.spec 281 = none := by kernel_rfl
theorem Lfn281 : LE.fn 281 = some (fnOf Tryz.f281) := by kernel_rfl
theorem Lmd281 : LE.mode 281 = .iso := by kernel_rfl
theorem Lhs282 : LE.hspec 282 = none := by kernel_rfl
theorem Lsp282 : LE.spec 282 = none := by kernel_rfl
theorem Lfn282 : LE.fn 282 = some (fnOf Tryz.f282) := by kernel_rfl
theorem Lmd282 : LE.mode 282 = .iso := by kernel_rfl
theorem Lhs283 : LE.hspec 283 = some hEscape := by kernel_rfl
theorem Lhs284 : LE.hspec 284 = none := by kernel_rfl
theorem Lsp284 : LE.spec 284 = none := by kernel_rfl
theorem Lfn284 : LE.fn 284 = some (fnOf Tryz.f284) := by kernel_rfl
theorem Lmd284 : LE.mode 284 = .iso := by kernel_rfl
theorem Lhs285 : LE.hspec 285 = some (hMake 5) := by kernel_rfl
theorem Lhs286 : LE.hspec 286 = none := by kernel_rfl
theorem Lsp286 : LE.spec 286 = none := by kernel_rfl
theorem Lfn286 : LE.fn 286 = some (fnOf Tryz.f286) := by kernel_rfl
theorem Lmd286 : LE.mode 286 = .iso := by kernel_rfl
theorem Lhs288 : LE.hspec 288 = none := by kernel_rfl
theorem Lsp288 : LE.spec 288 = none := by kernel_rfl
theorem Lfn288 : LE.fn 288 = some (fnOf Tryz.f288) := by kernel_rfl
theorem Lmd288 : LE.mode 288 = .shared := by kernel_rfl
theorem Lhs289 : LE.hspec 289 = none := by kernel_rfl
theorem Lsp289 : LE.spec 289 = none := by kernel_rfl
theorem Lfn289 : LE.fn 289 = some (fnOf Tryz.f289) := by kernel_rfl
theorem Lmd289 : LE.mode 289 = .iso := by kernel_rfl
theorem Lhs290 : LE.hspec 290 = none := by kernel_rfl
theorem Lsp290 : LE.spec 290 = none := by kernel_rfl
theorem Lfn290 : LE.fn 290 = some (fnOf Tryz.f290) := by kernel_rfl
theorem Lmd290 : LE.mode 290 = .iso := by kernel_rfl
theorem Lhs291 : LE.hspec 291 = none := by kernel_rfl
theorem Lsp291 : LE.spec 291 = none := by kernel_rfl
theorem Lfn291 : LE.fn 291 = some (fnOf Tryz.f291) := by kernel_rfl
theorem Lmd291 : LE.mode 291 = .iso := by kernel_rfl
theorem Lhs292 : LE.hspec 292 = none := by kernel_rfl
theorem Lsp292 : LE.spec 292 = none := by kernel_rfl
theorem Lfn292 : LE.fn 292 = some (fnOf Tryz.f292) := by kernel_rfl
theorem Lmd292 : LE.mode 292 = .shared := by kernel_rfl
theorem Lhs293 : LE.hspec 293 = none := by kernel_rfl
theorem Lsp293 : LE.spec 293 = none := by kernel_rfl
theorem Lfn293 : LE.fn 293 = some (fnOf Tryz.f293) := by kernel_rfl
theorem Lmd293 : LE.mode 293 = .shared := by kernel_rfl
theorem Lhs294 : LE.hspec 294 = none := by kernel_rfl
theorem Lsp294 : LE.spec 294 = none := by kernel_rfl
theorem Lfn294 : LE.fn 294 = some (fnOf Tryz.f294) := by kernel_rfl
theorem Lmd294 : LE.mode 294 = .iso := by kernel_rfl
theorem Lhs295 : LE.hspec 295 = none := by kernel_rfl
theorem Lsp295 : LE.spec 295 = none := by kernel_rfl
theorem Lfn295 : LE.fn 295 = some (fnOf Tryz.f295) := by kernel_rfl
theorem Lmd295 : LE.mode 295 = .iso := by kernel_rfl
theorem Lhs296 : LE.hspec 296 = none := by kernel_rfl
theorem Lsp296 : LE.spec 296 = none := by kernel_rfl
theorem Lfn296 : LE.fn 296 = some (fnOf Tryz.f296) := by kernel_rfl
theorem Lmd296 : LE.mode 296 = .iso := by kernel_rfl
theorem Lhs297 : LE.hspec 297 = none := by kernel_rfl
theorem Lsp297 : LE.spec 297 = none := by kernel_rfl
theorem Lfn297 : LE.fn 297 = some (fnOf Tryz.f297) := by kernel_rfl
theorem Lmd297 : LE.mode 297 = .iso := by kernel_rfl
theorem Lhs298 : LE.hspec 298 = none := by kernel_rfl
theorem Lsp298 : LE.spec 298 = none := by kernel_rfl
theorem Lfn298 : LE.fn 298 = some (fnOf Tryz.f298) := by kernel_rfl
theorem Lmd298 : LE.mode 298 = .iso := by kernel_rfl
theorem Lhs299 : LE.hspec 299 = none := by kernel_rfl
theorem Lsp299 : LE.spec 299 = none := by kernel_rfl
theorem Lfn299 : LE.fn 299 = some (fnOf Tryz.f299) := by kernel_rfl
theorem Lmd299 : LE.mode 299 = .iso := by kernel_rfl
theorem Lhs300 : LE.hspec 300 = none := by kernel_rfl
theorem Lsp300 : LE.spec 300 = none := by kernel_rfl
theorem Lfn300 : LE.fn 300 = some (fnOf Tryz.f300) := by kernel_rfl
theorem Lmd300 : LE.mode 300 = .iso := by kernel_rfl
theorem Lhs301 : LE.hspec 301 = none := by kernel_rfl
theorem Lsp301 : LE.spec 301 = none := by kernel_rfl
theorem Lfn301 : LE.fn 301 = some (fnOf Tryz.f301) := by kernel_rfl
theorem Lmd301 : LE.mode 301 = .iso := by kernel_rfl
theorem Lhs302 : LE.hspec 302 = none := by kernel_rfl
theorem Lsp302 : LE.spec 302 = none := by kernel_rfl
theorem Lfn302 : LE.fn 302 = some (fnOf Tryz.f302) := by kernel_rfl
theorem Lmd302 : LE.mode 302 = .iso := by kernel_rfl
theorem Lhs303 : LE.hspec 303 = none := by kernel_rfl
theorem Lsp303 : LE.spec 303 = none := by kernel_rfl
theorem Lfn303 : LE.fn 303 = some (fnOf Tryz.f303) := by kernel_rfl
theorem Lmd303 : LE.mode 303 = .iso := by kernel_rfl
theorem Lhs304 : LE.hspec 304 = none := by kernel_rfl
theorem Lsp304 : LE.spec 304 = none := by kernel_rfl
theorem Lfn304 : LE.fn 304 = some (fnOf Tryz.f304) := by kernel_rfl
theorem Lmd304 : LE.mode 304 = .shared := by kernel_rfl
theorem Lhs305 : LE.hspec 305 = none := by kernel_rfl
theorem Lsp305 : LE.spec 305 = none := by kernel_rfl
theorem Lfn305 : LE.fn 305 = some (fnOf Tryz.f305) := by kernel_rfl
theorem Lmd305 : LE.mode 305 = .iso := by kernel_rfl
theorem Lhs306 : LE.hspec 306 = none := by kernel_rfl
theorem Lsp306 : LE.spec 306 = none := by kernel_rfl
theorem Lfn306 : LE.fn 306 = some (fnOf Tryz.f306) := by kernel_rfl
theorem Lmd306 : LE.mode 306 = .iso := by kernel_rfl
theorem Lhs307 : LE.hspec 307 = none := by kernel_rfl
theorem Lsp307 : LE.spec 307 = none := by kernel_rfl
theorem Lfn307 : LE.fn 307 = some (fnOf Tryz.f307) := by kernel_rfl
theorem Lmd307 : LE.mode 307 = .iso := by kernel_rfl
theorem Lhs308 : LE.hspec 308 = none := by kernel_rfl
theorem Lsp308 : LE.spec 308 = none := by kernel_rfl
theorem Lfn308 : LE.fn 308 = some (fnOf Tryz.f308) := by kernel_rfl
theorem Lmd308 : LE.mode 308 = .iso := by kernel_rfl
theorem Lhs309 : LE.hspec 309 = none := by kernel_rfl
theorem Lsp309 : LE.spec 309 = none := by kernel_rfl
theorem Lfn309 : LE.fn 309 = some (fnOf Tryz.f309) := by kernel_rfl
theorem Lmd309 : LE.mode 309 = .iso := by kernel_rfl
theorem Lhs310 : LE.hspec 310 = none := by kernel_rfl
theorem Lsp310 : LE.spec 310 = none := by kernel_rfl
theorem Lfn310 : LE.fn 310 = some (fnOf Tryz.f310) := by kernel_rfl
theorem Lmd310 : LE.mode 310 = .iso := by kernel_rfl
theorem Lhs311 : LE.hspec 311 = none := by kernel_rfl
theorem Lsp311 : LE.spec 311 = none := by kernel_rfl
theorem Lfn311 : LE.fn 311 = some (fnOf Tryz.f311) := by kernel_rfl
theorem Lmd311 : LE.mode 311 = .iso := by kernel_rfl
theorem Lhs312 : LE.hspec 312 = none := by kernel_rfl
theorem Lsp312 : LE.spec 312 = none := by kernel_rfl
theorem Lfn312 : LE.fn 312 = some (fnOf Tryz.f312) := by kernel_rfl
theorem Lmd312 : LE.mode 312 = .iso := by kernel_rfl
theorem Lhs313 : LE.hspec 313 = none := by kernel_rfl
theorem Lsp313 : LE.spec 313 = none := by kernel_rfl
theorem Lfn313 : LE.fn 313 = some (fnOf Tryz.f313) := by kernel_rfl
theorem Lmd313 : LE.mode 313 = .iso := by kernel_rfl
theorem Lhs314 : LE.hspec 314 = none := by kernel_rfl
theorem Lsp314 : LE.spec 314 = none := by kernel_rfl
theorem Lfn314 : LE.fn 314 = some (fnOf Tryz.f314) := by kernel_rfl
theorem Lmd314 : LE.mode 314 = .iso := by kernel_rfl
theorem Lhs315 : LE.hspec 315 = none := by kernel_rfl
theorem Lsp315 : LE.spec 315 = none := by kernel_rfl
theorem Lfn315 : LE.fn 315 = some (fnOf Tryz.f315) := by kernel_rfl
theorem Lmd315 : LE.mode 315 = .iso := by kernel_rfl
theorem Lhs345 : LE.hspec 345 = none := by kernel_rfl
theorem Lsp345 : LE.spec 345 = none := by kernel_rfl
theorem Lfn345 : LE.fn 345 = some (fnOf Tryz.f345) := by kernel_rfl
theorem Lmd345 : LE.mode 345 = .iso := by kernel_rfl
theorem Lty1 : LE.ty 1 = some { kd := .func, size := 1, bytes := 8, zero := .nilf } := by kernel_rfl
theorem Lty2 : LE.ty 2 = some { kd := .int .i64, size := 1, bytes := 8, zero := .int .i64 0 } := by kernel_rfl
theorem Lty3 : LE.ty 3 = some { kd := .int .i64, size := 1, bytes := 8, zero := .int .i64 0 } := by kernel_rfl
theorem Lty4 : LE.ty 4 = some { kd := .bool, size := 1, bytes := 1, zero := .bool false } := by kernel_rfl
theorem Lty5 : LE.ty 5 = some { kd := .int .u8, size := 1, bytes := 1, zero := .int .u8 0 } := by kernel_rfl
theorem Lty6 : LE.ty 6 = some { kd := .int .u8, size := 1, bytes := 1, zero := .int .u8 0 } := by kernel_rfl
theorem Lty7 : LE.ty 7 = some { kd := .strct [(0, 2), (1, 3), (2, 4), (3, 6)], size := 4, bytes := 24, zero := .agg [.int .i64 0, .int .i64 0, .bool false, .int .u8 0] } := by kernel_rfl
theorem Lty8 : LE.ty 8 = some { kd := .strct [(0, 2), (1, 3), (2, 4), (3, 6)], size := 4, bytes := 24, zero := .agg [.int .i64 0, .int .i64 0, .bool false, .int .u8 0] } := by kernel_rfl
theorem Lty9 : LE.ty 9 = some { kd := .str, size := 1, bytes := 16, zero := .str [] } := by kernel_rfl
theorem Lty10 : LE.ty 10 = some { kd := .str, size := 1, bytes := 16, zero := .str [] } := by kernel_rfl
theorem Lty11 : LE.ty 11 = some { kd := .str, size := 1, bytes := 16, zero := .str [] } := by kernel_rfl
theorem Lty12 : LE.ty 12 = some { kd := .int .u64, size := 1, bytes := 8, zero := .int .u64 0 } := by kernel_rfl
theorem Lty13 : LE.ty 13 = some { kd := .strct [(0, 9), (1, 12)], size := 2, bytes := 24, zero := .agg [.str [], .int .u64 0] } := by kernel_rfl
theorem Lty14 : LE.ty 14 = some { kd := .strct [(0, 9), (1, 12)], size := 2, bytes := 24, zero := .agg [.str [], .int .u64 0] } := by kernel_rfl
theorem Lty15 : LE.ty 15 = some { kd := .ptr 327, size := 1, bytes := 8, zero := .nilp } := by kernel_rfl
theorem Lty16 : LE.ty 16 = some { kd := .ptr 330, size := 1, bytes := 8, zero := .nilp } := by kernel_rfl
theorem Lty17 : LE.ty 17 = some { kd := .ptr 337, size := 1, bytes := 8, zero := .nilp } := by kernel_rfl
theorem Lty18 : LE.ty 18 = some { kd := .strct [(0, 17)], size := 1, bytes := 8, zero := .agg [.nilp] } := by kernel_rfl
theorem Lty19 : LE.ty 19 = some { kd := .strct [(0, 17)], size := 1, bytes := 8, zero := .agg [.nilp] } := by kernel_rfl
theorem Lty20 : LE.ty 20 = some { kd := .ifc, size := 1, bytes := 16, zero := .nili } := by kernel_rfl
theorem Lty21 : LE.ty 21 = some { kd := .int .i32, size := 1, bytes := 4, zero := .int .i32 0 } := by kernel_rfl
theorem Lty22 : LE.ty 22 = some { kd := .sl 34, size := 1, bytes := 24, zero := .nils } := by kernel_rfl
theorem Lty23 : LE.ty 23 = some { kd := .func, size := 1, bytes := 8, zero := .nilf } := by kernel_rfl
theorem Lty24 : LE.ty 24 = some { kd := .func, size := 1, bytes := 8, zero := .nilf } := by kernel_rfl
theorem Lty25 : LE.ty 25 = some { kd := .ptr 32, size := 1, bytes := 8, zero := .nilp } := by kernel_rfl
theorem Lty26 : LE.ty 26 = some { kd := .func, size := 1, bytes := 8, zero := .nilf } := by kernel_rfl
theorem Lty27 : LE.ty 27 = some { kd := .func, size := 1, bytes := 8, zero := .nilf } := by kernel_rfl
theorem Lty28 : LE.ty 28 = some { kd := .map 34 4, size := 1, bytes := 8, zero := .nilm } := by kernel_rfl
theorem Lty29 : LE.ty 29 = some { kd := .strct [(0, 28)], size := 1, bytes := 8, zero := .agg [.nilm] } := by kernel_rfl
theorem Lty30 : LE.ty 30 = some { kd := .strct [(0, 28)], size := 1, bytes := 8, zero := .agg [.nilm] } := by kernel_rfl
theorem Lty31 : LE.ty 31 = some { kd := .strct [(0, 30)], size := 1, bytes := 8, zero := .agg [.nilm] } := by kernel_rfl
theorem Lty32 : LE.ty 32 = some { kd := .strct [(0, 30)], size := 1, bytes := 8, zero := .agg [.nilm] } := by kernel_rfl
theorem Lty33 : LE.ty 33 = some { kd := .strct [(0, 4), (1, 9)], size := 2, bytes := 24, zero := .agg [.bool false, .str []] } := by kernel_rfl
theorem Lty34 : LE.ty 34 = some { kd := .strct [(0, 4), (1, 9)], size := 2, bytes := 24, zero := .agg [.bool false, .str []] } := by kernel_rfl
theorem Lty35 : LE.ty 35 = some { kd := .func, size := 1, bytes := 8, zero := .nilf } := by kernel_rfl
theorem Lty36 : LE.ty 36 = some { kd := .func, size := 1, bytes := 8, zero := .nilf } := by kernel_rfl
theorem Lty37 : LE.ty 37 = some { kd := .func, size := 1, bytes := 8, zero := .nilf } := by kernel_rfl
theorem Lty38 : LE.ty 38 = some { kd := .func, size := 1, bytes := 8, zero := .nilf } := by kernel_rfl
theorem Lty39 : LE.ty 39 = some { kd := .func, size := 1, bytes := 8, zero := .nilf } := by kernel_rfl
theorem Lty40 : LE.ty 40 = some { kd := .func, size := 1, bytes := 8, zero := .nilf } := by kernel_rfl
theorem Lty41 : LE.ty 41 = some { kd := .func, size := 1, bytes := 8, zero := .nilf } := by kernel_rfl
theorem Lty42 : LE.ty 42 = some { kd := .func, size := 1, bytes := 8, zero := .nilf } := by kernel_rfl
theorem Lty43 : LE.ty 43 = some { kd := .sl 48, size := 1, bytes := 24, zero := .nils } := by kernel_rfl
theorem Lty44 : LE.ty 44 = some { kd := .sl 9, size := 1, bytes := 24, zero := .nils } := by kernel_rfl
theorem Lty45 : LE.ty 45 = some { kd := .func, size := 1, bytes := 8, zero := .nilf } := by kernel_rfl
theorem Lty46 : LE.ty 46 = some { kd := .sl 87, size := 1, bytes := 24, zero := .nils } := by kernel_rfl
theorem Lty47 : LE.ty 47 = some { kd := .strct [(0, 9), (1, 44), (2, 44), (3, 44), (4, 46)], size := 5, bytes := 112, zero := .agg [.str [], .nils, .nils, .nils, .nils] } := by kernel_rfl
theorem Lty48 : LE.ty 48 = some { kd := .strct [(0, 9), (1, 44), (2, 44), (3, 44), (4, 46)], size := 5, bytes := 112, zero := .agg [.str [], .nils, .nils, .nils, .nils] } := by kernel_rfl
theorem Lty49 : LE.ty 49 = some { kd := .func, size := 1, bytes := 8, zero := .nilf } := by kernel_rfl
theorem Lty50 : LE.ty 50 = some { kd := .func, size := 1, bytes := 8, zero := .nilf } := by kernel_rfl
theorem Lty51 : LE.ty 51 = some { kd := .func, size := 1, bytes := 8, zero := .nilf } := by kernel_rfl
theorem Lty52 : LE.ty 52 = some { kd := .func, size := 1, bytes := 8, zero := .nilf } := by kernel_rfl
theorem Lty53 : LE.ty 53 = some { kd := .func, size := 1, bytes := 8, zero := .nilf } := by kernel_rfl
theorem Lty54 : LE.ty 54 = some { kd := .func, size := 1, bytes := 8, zero := .nilf } := by kernel_rfl
theorem Lty55 : LE.ty 55 = some { kd := .func, size := 1, bytes := 8, zero := .nilf } := by kernel_rfl
theorem Lty56 : LE.ty 56 = some { kd := .func, size := 1, bytes := 8, zero := .nilf } := by kernel_rfl
theorem Lty57 : LE.ty 57 = some { kd := .func, size := 1, bytes := 8, zero := .nilf } := by kernel_rfl
theorem Lty58 : LE.ty 58 = some { kd := .func, size := 1, bytes := 8, zero := .nilf } := by kernel_rfl
theorem Lty59 : LE.ty 59 = some { kd := .func, size := 1, bytes := 8, zero := .nilf } := by kernel_rfl
theorem Lty60 : LE.ty 60 = some { kd := .ptr 107, size := 1, bytes := 8, zero := .nilp } := by kernel_rfl
theorem Lty61 : LE.ty 61 = some { kd := .ptr 30, size := 1, bytes := 8, zero := .nilp } := by kernel_rfl
theorem Lty63 : LE.ty 63 = some { kd := .func, size := 1, bytes := 8, zero := .nilf } := by kernel_rfl
theorem Lty65 : LE.ty 65 = some { kd := .func, size := 1, bytes := 8, zero := .nilf } := by kernel_rfl
theorem Lty66 : LE.ty 66 = some { kd := .func, size := 1, bytes := 8, zero := .nilf } := by kernel_rfl
theorem Lty67 : LE.ty 67 = some { kd := .func, size := 1, bytes := 8, zero := .nilf } := by kernel_rfl
theorem Lty68 : LE.ty 68 = some { kd := .func, size := 1, bytes := 8, zero := .nilf } := by kernel_rfl
theorem Lty69 : LE.ty 69 = some { kd := .func, size := 1, bytes := 8, zero := .nilf } := by kernel_rfl
theorem Lty70 : LE.ty 70 = some { kd := .func, size := 1, bytes := 8, zero := .nilf } := by kernel_rfl
theorem Lty71 : LE.ty 71 = some { kd := .func, size := 1, bytes := 8, zero := .nilf } := by kernel_rfl
theorem Lty72 : LE.ty 72 = some { kd := .func, size := 1, bytes := 8, zero := .nilf } := by kernel_rfl
theorem Lty73 : LE.ty 73 = some { kd := .func, size := 1, bytes := 8, zero := .nilf } := by kernel_rfl
theorem Lty74 : LE.ty 74 = some { kd := .sl 44, size := 1, bytes := 24, zero := .nils } := by kernel_rfl
theorem Lty75 : LE.ty 75 = some { kd := .func, size := 1, bytes := 8, zero := .nilf } := by kernel_rfl
theorem Lty76 : LE.ty 76 = some { kd := .func, size := 1, bytes := 8, zero := .nilf } := by kernel_rfl
theorem Lty77 : LE.ty 77 = some { kd := .func, size := 1, bytes := 8, zero := .nilf } := by kernel_rfl
theorem Lty78 : LE.ty 78 = some { kd := .sl 22, size := 1, bytes := 24, zero := .nils } := by kernel_rfl
theorem Lty79 : LE.ty 79 = some { kd := .func, size := 1, bytes := 8, zero := .nilf } := by kernel_rfl
theorem Lty80 : LE.ty 80 = some { kd := .func, size := 1, bytes := 8, zero := .nilf } := by kernel_rfl
theorem Lty81 : LE.ty 81 = some { kd := .func, size := 1, bytes := 8, zero := .nilf } := by kernel_rfl
theorem Lty82 : LE.ty 82 = some { kd := .func, size := 1, bytes := 8, zero := .nilf } := by kernel_rfl
theorem Lty83 : LE.ty 83 = some { kd := .func, size := 1, bytes := 8, zero := .nilf } := by kernel_rfl
theorem Lty84 : LE.ty 84 = some { kd := .func, size := 1, bytes := 8, zero := .nilf } := by kernel_rfl
theorem Lty85 : LE.ty 85 = some { kd := .sl 5, size := 1, bytes := 24, zero := .nils } := by kernel_rfl
theorem Lty86 : LE.ty 86 = some { kd := .strct [(0, 9), (1, 3), (2, 44), (3, 44), (4, 3)], size := 5, bytes := 80, zero := .agg [.str [], .int .i64 0, .nils, .nils, .int .i64 0] } := by kernel_rfl
theorem Lty87 : LE.ty 87 = some { kd := .strct [(0, 9), (1, 3), (2, 44), (3, 44), (4, 3)], size := 5, bytes := 80, zero := .agg [.str [], .int .i64 0, .nils, .nils, .int .i64 0] } := by kernel_rfl
theorem Lty88 : LE.ty 88 = some { kd := .int .i64, size := 1, bytes := 8, zero := .int .i64 0 } := by kernel_rfl
theorem Lty90 : LE.ty 90 = some { kd := .func, size := 1, bytes := 8, zero := .nilf } := by kernel_rfl
theorem Lty91 : LE.ty 91 = some { kd := .map 9 101, size := 1, bytes := 8, zero := .nilm } := by kernel_rfl
theorem Lty92 : LE.ty 92 = some { kd := .func, size := 1, bytes := 8, zero := .nilf } := by kernel_rfl
theorem Lty93 : LE.ty 93 = some { kd := .func, size := 1, bytes := 8, zero := .nilf } := by kernel_rfl
theorem Lty94 : LE.ty 94 = some { kd := .func, size := 1, bytes := 8, zero := .nilf } := by kernel_rfl
theorem Lty95 : LE.ty 95 = some { kd := .func, size := 1, bytes := 8, zero := .nilf } := by kernel_rfl
theorem Lty96 : LE.ty 96 = some { kd := .func, size := 1, bytes := 8, zero := .nilf } := by kernel_rfl
theorem Lty97 : LE.ty 97 = some { kd := .func, size := 1, bytes := 8, zero := .nilf } := by kernel_rfl
theorem Lty98 : LE.ty 98 = some { kd := .func, size := 1, bytes := 8, zero := .nilf } := by kernel_rfl
theorem Lty99 : LE.ty 99 = some { kd := .func, size := 1, bytes := 8, zero := .nilf } := by kernel_rfl
theorem Lty100 : LE.ty 100 = some { kd := .func, size := 1, bytes := 8, zero := .nilf } := by kernel_rfl
theorem Lty101 : LE.ty 101 = some { kd := .map 9 4, size := 1, bytes := 8, zero := .nilm } := by kernel_rfl
theorem Lty102 : LE.ty 102 = some { kd := .func, size := 1, bytes := 8, zero := .nilf } := by kernel_rfl
theorem Lty103 : LE.ty 103 = some { kd := .map 9 48, size := 1, bytes := 8, zero := .nilm } := by kernel_rfl
theorem Lty104 : LE.ty 104 = some { kd := .map 9 9, size := 1, bytes := 8, zero := .nilm } := by kernel_rfl
theorem Lty105 : LE.ty 105 = some { kd := .map 34 25, size := 1, bytes := 8, zero := .nilm } := by kernel_rfl
theorem Lty106 : LE.ty 106 = some { kd := .strct [(0, 103), (1, 104), (2, 25), (3, 105), (4, 105)], size := 5, bytes := 40, zero := .agg [.nilm, .nilm, .nilp, .nilm, .nilm] } := by kernel_rfl
theorem Lty107 : LE.ty 107 = some { kd := .strct [(0, 103), (1, 104), (2, 25), (3, 105), (4, 105)], size := 5, bytes := 40, zero := .agg [.nilm, .nilm, .nilp, .nilm, .nilm] } := by kernel_rfl
theorem Lty108 : LE.ty 108 = some { kd := .func, size := 1, bytes := 8, zero := .nilf } := by kernel_rfl
theorem Lty109 : LE.ty 109 = some { kd := .func, size := 1, bytes := 8, zero := .nilf } := by kernel_rfl
theorem Lty110 : LE.ty 110 = some { kd := .func, size := 1, bytes := 8, zero := .nilf } := by kernel_rfl
theorem Lty111 : LE.ty 111 = some { kd := .map 9 44, size := 1, bytes := 8, zero := .nilm } := by kernel_rfl
theorem Lty112 : LE.ty 112 = some { kd := .func, size := 1, bytes := 8, zero := .nilf } := by kernel_rfl
theorem Lty113 : LE.ty 113 = some { kd := .func, size := 1, bytes := 8, zero := .nilf } := by kernel_rfl
theorem Lty114 : LE.ty 114 = some { kd := .func, size := 1, bytes := 8, zero := .nilf } := by kernel_rfl
theorem Lty115 : LE.ty 115 = some { kd := .func, size := 1, bytes := 8, zero := .nilf } := by kernel_rfl
theorem Lty116 : LE.ty 116 = some { kd := .map 34 3, size := 1, bytes := 8, zero := .nilm } := by kernel_rfl
theorem Lty117 : LE.ty 117 = some { kd := .func, size := 1, bytes := 8, zero := .nilf } := by kernel_rfl
theorem Lty119 : LE.ty 119 = some { kd := .func, size := 1, bytes := 8, zero := .nilf } := by kernel_rfl
theorem Lty120 : LE.ty 120 = some { kd := .func, size := 1, bytes := 8, zero := .nilf } := by kernel_rfl
theorem Lty121 : LE.ty 121 = some { kd := .func, size := 1, bytes := 8, zero := .nilf } := by kernel_rfl
theorem Lty122 : LE.ty 122 = some { kd := .func, size := 1, bytes := 8, zero := .nilf } := by kernel_rfl
theorem Lty123 : LE.ty 123 = some { kd := .func, size := 1, bytes := 8, zero := .nilf } := by kernel_rfl
theorem Lty124 : LE.ty 124 = some { kd := .func, size := 1, bytes := 8, zero := .nilf } := by kernel_rfl
theorem Lty125 : LE.ty 125 = some { kd := .func, size := 1, bytes := 8, zero := .nilf } := by kernel_rfl
theorem Lty126 : LE.ty 126 = some { kd := .func, size := 1, bytes := 8, zero := .nilf } := by kernel_rfl
theorem Lty127 : LE.ty 127 = some { kd := .func, size := 1, bytes := 8, zero := .nilf } := by kernel_rfl
theorem Lty128 : LE.ty 128 = some { kd := .func, size := 1, bytes := 8, zero := .nilf } := by kernel_rfl
theorem Lty129 : LE.ty 129 = some { kd := .func, size := 1, bytes := 8, zero := .nilf } := by kernel_rfl
theorem Lty130 : LE.ty 130 = some { kd := .func, size := 1, bytes := 8, zero := .nilf } := by kernel_rfl
theorem Lty131 : LE.ty 131 = some { kd := .func, size := 1, bytes := 8, zero := .nilf } := by kernel_rfl
theorem Lty132 : LE.ty 132 = some { kd := .func, size := 1, bytes := 8, zero := .nilf } := by kernel_rfl
theorem Lty133 : LE.ty 133 = some { kd := .func, size := 1, bytes := 8, zero := .nilf } := by kernel_rfl
theorem Lty134 : LE.ty 134 = some { kd := .int .u64, size := 1, bytes := 8, zero := .int .u64 0 } := by kernel_rfl
theorem Lty135 : LE.ty 135 = some { kd := .strct [(0, 105), (1, 34), (3, 34)], size := 5, bytes := 56, zero := .agg [.nilm, .bool false, .str [], .bool false, .str []] } := by kernel_rfl
theorem Lty136 : LE.ty 136 = some { kd := .sl 135, size := 1, bytes := 24, zero := .nils } := by kernel_rfl
theorem Lty137 : LE.ty 137 = some { kd := .sl 140, size := 1, bytes := 24, zero := .nils } := by kernel_rfl
theorem Lty138 : LE.ty 138 = some { kd := .func, size := 1, bytes := 8, zero := .nilf } := by kernel_rfl
theorem Lty139 : LE.ty 139 = some { kd := .strct [(0, 4), (1, 9)], size := 2, bytes := 24, zero := .agg [.bool false, .str []] } := by kernel_rfl
theorem Lty140 : LE.ty 140 = some { kd := .strct [(0, 4), (1, 9)], size := 2, bytes := 24, zero := .agg [.bool false, .str []] } := by kernel_rfl
theorem Lty141 : LE.ty 141 = some { kd := .func, size := 1, bytes := 8, zero := .nilf } := by kernel_rfl
theorem Lty142 : LE.ty 142 = some { kd := .ptr 177, size := 1, bytes := 8, zero := .nilp } := by kernel_rfl
theorem Lty143 : LE.ty 143 = some { kd := .func, size := 1, bytes := 8, zero := .nilf } := by kernel_rfl
theorem Lty144 : LE.ty 144 = some { kd := .strct [(0, 9), (1, 9)], size := 2, bytes := 32, zero := .agg [.str [], .str []] } := by kernel_rfl
theorem Lty145 : LE.ty 145 = some { kd := .strct [(0, 9), (1, 9)], size := 2, bytes := 32, zero := .agg [.str [], .str []] } := by kernel_rfl
theorem Lty146 : LE.ty 146 = some { kd := .func, size := 1, bytes := 8, zero := .nilf } := by kernel_rfl
theorem Lty147 : LE.ty 147 = some { kd := .sl 3, size := 1, bytes := 24, zero := .nils } := by kernel_rfl
theorem Lty148 : LE.ty 148 = some { kd := .func, size := 1, bytes := 8, zero := .nilf } := by kernel_rfl
theorem Lty149 : LE.ty 149 = some { kd := .func, size := 1, bytes := 8, zero := .nilf } := by kernel_rfl
theorem Lty150 : LE.ty 150 = some { kd := .func, size := 1, bytes := 8, zero := .nilf } := by kernel_rfl
theorem Lty151 : LE.ty 151 = some { kd := .func, size := 1, bytes := 8, zero := .nilf } := by kernel_rfl
theorem Lty152 : LE.ty 152 = some { kd := .func, size := 1, bytes := 8, zero := .nilf } := by kernel_rfl
theorem Lty153 : LE.ty 153 = some { kd := .func, size := 1, bytes := 8, zero := .nilf } := by kernel_rfl
theorem Lty154 : LE.ty 154 = some { kd := .func, size := 1, bytes := 8, zero := .nilf } := by kernel_rfl
theorem Lty155 : LE.ty 155 = some { kd := .func, size := 1, bytes := 8, zero := .nilf } := by kernel_rfl
theorem Lty156 : LE.ty 156 = some { kd := .func, size := 1, bytes := 8, zero := .nilf } := by kernel_rfl
theorem Lty157 : LE.ty 157 = some { kd := .func, size := 1, bytes := 8, zero := .nilf } := by kernel_rfl
theorem Lty158 : LE.ty 158 = some { kd := .func, size := 1, bytes := 8, zero := .nilf } := by kernel_rfl
theorem Lty159 : LE.ty 159 = some { kd := .func, size := 1, bytes := 8, zero := .nilf } := by kernel_rfl
theorem Lty160 : LE.ty 160 = some { kd := .func, size := 1, bytes := 8, zero := .nilf } := by kernel_rfl
theorem Lty161 : LE.ty 161 = some { kd := .func, size := 1, bytes := 8, zero := .nilf } := by kernel_rfl
theorem Lty162 : LE.ty 162 = some { kd := .int .i64, size := 1, bytes := 8, zero := .int .i64 0 } := by kernel_rfl
theorem Lty164 : LE.ty 164 = some { kd := .func, size := 1, bytes := 8, zero := .nilf } := by kernel_rfl
theorem Lty165 : LE.ty 165 = some { kd := .func, size := 1, bytes := 8, zero := .nilf } := by kernel_rfl
theorem Lty166 : LE.ty 166 = some { kd := .func, size := 1, bytes := 8, zero := .nilf } := by kernel_rfl
theorem Lty167 : LE.ty 167 = some { kd := .func, size := 1, bytes := 8, zero := .nilf } := by kernel_rfl
theorem Lty168 : LE.ty 168 = some { kd := .func, size := 1, bytes := 8, zero := .nilf } := by kernel_rfl
theorem Lty169 : LE.ty 169 = some { kd := .func, size := 1, bytes := 8, zero := .nilf } := by kernel_rfl
theorem Lty170 : LE.ty 170 = some { kd := .int .u32, size := 1, bytes := 4, zero := .int .u32 0 } := by kernel_rfl
theorem Lty171 : LE.ty 171 = some { kd := .func, size := 1, bytes := 8, zero := .nilf } := by kernel_rfl
theorem Lty172 : LE.ty 172 = some { kd := .int .u64, size := 1, bytes := 8, zero := .int .u64 0 } := by kernel_rfl
theorem Lty173 : LE.ty 173 = some { kd := .map 9 140, size := 1, bytes := 8, zero := .nilm } := by kernel_rfl
theorem Lty174 : LE.ty 174 = some { kd := .func, size := 1, bytes := 8, zero := .nilf } := by kernel_rfl
theorem Lty175 : LE.ty 175 = some { kd := .sl 145, size := 1, bytes := 24, zero := .nils } := by kernel_rfl
theorem Lty176 : LE.ty 176 = some { kd := .strct [(0, 104)], size := 1, bytes := 8, zero := .agg [.nilm] } := by kernel_rfl
theorem Lty177 : LE.ty 177 = some { kd := .strct [(0, 104)], size := 1, bytes := 8, zero := .agg [.nilm] } := by kernel_rfl
theorem Lty178 : LE.ty 178 = some { kd := .func, size := 1, bytes := 8, zero := .nilf } := by kernel_rfl
theorem Lty179 : LE.ty 179 = some { kd := .ptr 181, size := 1, bytes := 8, zero := .nilp } := by kernel_rfl
theorem Lty180 : LE.ty 180 = some { kd := .strct [(0, 43), (1, 142), (2, 173)], size := 3, bytes := 40, zero := .agg [.nils, .nilp, .nilm] } := by kernel_rfl
theorem Lty181 : LE.ty 181 = some { kd := .strct [(0, 43), (1, 142), (2, 173)], size := 3, bytes := 40, zero := .agg [.nils, .nilp, .nilm] } := by kernel_rfl
theorem Lty182 : LE.ty 182 = some { kd := .func, size := 1, bytes := 8, zero := .nilf } := by kernel_rfl
theorem Lty183 : LE.ty 183 = some { kd := .func, size := 1, bytes := 8, zero := .nilf } := by kernel_rfl
theorem Lty184 : LE.ty 184 = some { kd := .sl 4, size := 1, bytes := 24, zero := .nils } := by kernel_rfl
theorem Lty185 : LE.ty 185 = some { kd := .func, size := 1, bytes := 8, zero := .nilf } := by kernel_rfl
theorem Lty186 : LE.ty 186 = some { kd := .func, size := 1, bytes := 8, zero := .nilf } := by kernel_rfl
theorem Lty188 : LE.ty 188 = some { kd := .func, size := 1, bytes := 8, zero := .nilf } := by kernel_rfl
theorem Lty189 : LE.ty 189 = some { kd := .func, size := 1, bytes := 8, zero := .nilf } := by kernel_rfl
theorem Lty190 : LE.ty 190 = some { kd := .func, size := 1, bytes := 8, zero := .nilf } := by kernel_rfl
theorem Lty191 : LE.ty 191 = some { kd := .func, size := 1, bytes := 8, zero := .nilf } := by kernel_rfl
theorem Lty192 : LE.ty 192 = some { kd := .func, size := 1, bytes := 8, zero := .nilf } := by kernel_rfl
theorem Lty193 : LE.ty 193 = some { kd := .func, size := 1, bytes := 8, zero := .nilf } := by kernel_rfl
theorem Lty194 : LE.ty 194 = some { kd := .func, size := 1, bytes := 8, zero := .nilf } := by kernel_rfl
theorem Lty195 : LE.ty 195 = some { kd := .func, size := 1, bytes := 8, zero := .nilf } := by kernel_rfl
theorem Lty196 : LE.ty 196 = some { kd := .map 9 3, size := 1, bytes := 8, zero := .nilm } := by kernel_rfl
theorem Lty197 : LE.ty 197 = some { kd := .int .u64, size := 1, bytes := 8, zero := .int .u64 0 } := by kernel_rfl
theorem Lty198 : LE.ty 198 = some { kd := .func, size := 1, bytes := 8, zero := .nilf } := by kernel_rfl
theorem Lty199 : LE.ty 199 = some { kd := .func, size := 1, bytes := 8, zero := .nilf } := by kernel_rfl
theorem Lty200 : LE.ty 200 = some { kd := .func, size := 1, bytes := 8, zero := .nilf } := by kernel_rfl
theorem Lty201 : LE.ty 201 = some { kd := .ptr 3, size := 1, bytes := 8, zero := .nilp } := by kernel_rfl
theorem Lty202 : LE.ty 202 = some { kd := .func, size := 1, bytes := 8, zero := .nilf } := by kernel_rfl
theorem Lty203 : LE.ty 203 = some { kd := .func, size := 1, bytes := 8, zero := .nilf } := by kernel_rfl
theorem Lty205 : LE.ty 205 = some { kd := .sl 213, size := 1, bytes := 24, zero := .nils } := by kernel_rfl
theorem Lty206 : LE.ty 206 = some { kd := .strct [(0, 88), (1, 3)], size := 2, bytes := 16, zero := .agg [.int .i64 0, .int .i64 0] } := by kernel_rfl
theorem Lty207 : LE.ty 207 = some { kd := .strct [(0, 88), (1, 3)], size := 2, bytes := 16, zero := .agg [.int .i64 0, .int .i64 0] } := by kernel_rfl
theorem Lty209 : LE.ty 209 = some { kd := .func, size := 1, bytes := 8, zero := .nilf } := by kernel_rfl
theorem Lty211 : LE.ty 211 = some { kd := .func, size := 1, bytes := 8, zero := .nilf } := by kernel_rfl
theorem Lty212 : LE.ty 212 = some { kd := .strct [(0, 3), (1, 3), (2, 9)], size := 3, bytes := 32, zero := .agg [.int .i64 0, .int .i64 0, .str []] } := by kernel_rfl
theorem Lty213 : LE.ty 213 = some { kd := .strct [(0, 3), (1, 3), (2, 9)], size := 3, bytes := 32, zero := .agg [.int .i64 0, .int .i64 0, .str []] } := by kernel_rfl
theorem Lty214 : LE.ty 214 = some { kd := .func, size := 1, bytes := 8, zero := .nilf } := by kernel_rfl
theorem Lty215 : LE.ty 215 = some { kd := .func, size := 1, bytes := 8, zero := .nilf } := by kernel_rfl
theorem Lty216 : LE.ty 216 = some { kd := .func, size := 1, bytes := 8, zero := .nilf } := by kernel_rfl
theorem Lty217 : LE.ty 217 = some { kd := .func, size := 1, bytes := 8, zero := .nilf } := by kernel_rfl
theorem Lty218 : LE.ty 218 = some { kd := .func, size := 1, bytes := 8, zero := .nilf } := by kernel_rfl
theorem Lty219 : LE.ty 219 = some { kd := .func, size := 1, bytes := 8, zero := .nilf } := by kernel_rfl
theorem Lty220 : LE.ty 220 = some { kd := .func, size := 1, bytes := 8, zero := .nilf } := by kernel_rfl
theorem Lty221 : LE.ty 221 = some { kd := .func, size := 1, bytes := 8, zero := .nilf } := by kernel_rfl
theorem Lty222 : LE.ty 222 = some { kd := .func, size := 1, bytes := 8, zero := .nilf } := by kernel_rfl
theorem Lty223 : LE.ty 223 = some { kd := .func, size := 1, bytes := 8, zero := .nilf } := by kernel_rfl
theorem Lty224 : LE.ty 224 = some { kd := .ptr 197, size := 1, bytes := 8, zero := .nilp } := by kernel_rfl
theorem Lty226 : LE.ty 226 = some { kd := .func, size := 1, bytes := 8, zero := .nilf } := by kernel_rfl
theorem Lty227 : LE.ty 227 = some { kd := .func, size := 1, bytes := 8, zero := .nilf } := by kernel_rfl
theorem Lty228 : LE.ty 228 = some { kd := .func, size := 1, bytes := 8, zero := .nilf } := by kernel_rfl
theorem Lty229 : LE.ty 229 = some { kd := .func, size := 1, bytes := 8, zero := .nilf } := by kernel_rfl
theorem Lty230 : LE.ty 230 = some { kd := .func, size := 1, bytes := 8, zero := .nilf } := by kernel_rfl
theorem Lty231 : LE.ty 231 = some { kd := .func, size := 1, bytes := 8, zero := .nilf } := by kernel_rfl
theorem Lty233 : LE.ty 233 = some { kd := .func, size := 1, bytes := 8, zero := .nilf } := by kernel_rfl
theorem Lty234 : LE.ty 234 = some { kd := .ptr 236, size := 1, bytes := 8, zero := .nilp } := by kernel_rfl
theorem Lty235 : LE.ty 235 = some { kd := .strct [(0, 205), (1, 3)], size := 2, bytes := 32, zero := .agg [.nils, .int .i64 0] } := by kernel_rfl
theorem Lty236 : LE.ty 236 = some { kd := .strct [(0, 205), (1, 3)], size := 2, bytes := 32, zero := .agg [.nils, .int .i64 0] } := by kernel_rfl
theorem Lty237 : LE.ty 237 = some { kd := .func, size := 1, bytes := 8, zero := .nilf } := by kernel_rfl
theorem Lty238 : LE.ty 238 = some { kd := .func, size := 1, bytes := 8, zero := .nilf } := by kernel_rfl
theorem Lty239 : LE.ty 239 = some { kd := .func, size := 1, bytes := 8, zero := .nilf } := by kernel_rfl
theorem Lty240 : LE.ty 240 = some { kd := .func, size := 1, bytes := 8, zero := .nilf } := by kernel_rfl
theorem Lty241 : LE.ty 241 = some { kd := .func, size := 1, bytes := 8, zero := .nilf } := by kernel_rfl
theorem Lty242 : LE.ty 242 = some { kd := .func, size := 1, bytes := 8, zero := .nilf } := by kernel_rfl
theorem Lty243 : LE.ty 243 = some { kd := .func, size := 1, bytes := 8, zero := .nilf } := by kernel_rfl
theorem Lty244 : LE.ty 244 = some { kd := .func, size := 1, bytes := 8, zero := .nilf } := by kernel_rfl
theorem Lty245 : LE.ty 245 = some { kd := .func, size := 1, bytes := 8, zero := .nilf } := by kernel_rfl
theorem Lty246 : LE.ty 246 = some { kd := .func, size := 1, bytes := 8, zero := .nilf } := by kernel_rfl
theorem Lty247 : LE.ty 247 = some { kd := .ptr 249, size := 1, bytes := 8, zero := .nilp } := by kernel_rfl
theorem Lty248 : LE.ty 248 = some { kd := .strct [(0, 247), (1, 85)], size := 2, bytes := 32, zero := .agg [.nilp, .nils] } := by kernel_rfl
theorem Lty249 : LE.ty 249 = some { kd := .strct [(0, 247), (1, 85)], size := 2, bytes := 32, zero := .agg [.nilp, .nils] } := by kernel_rfl
theorem Lty250 : LE.ty 250 = some { kd := .ifc, size := 1, bytes := 16, zero := .nili } := by kernel_rfl
theorem Lty251 : LE.ty 251 = some { kd := .ifc, size := 1, bytes := 16, zero := .nili } := by kernel_rfl
theorem Lty253 : LE.ty 253 = some { kd := .func, size := 1, bytes := 8, zero := .nilf } := by kernel_rfl
theorem Lty254 : LE.ty 254 = some { kd := .func, size := 1, bytes := 8, zero := .nilf } := by kernel_rfl
theorem Lty255 : LE.ty 255 = some { kd := .func, size := 1, bytes := 8, zero := .nilf } := by kernel_rfl
theorem Lty256 : LE.ty 256 = some { kd := .func, size := 1, bytes := 8, zero := .nilf } := by kernel_rfl
theorem Lty257 : LE.ty 257 = some { kd := .func, size := 1, bytes := 8, zero := .nilf } := by kernel_rfl
theorem Lty258 : LE.ty 258 = some { kd := .func, size := 1, bytes := 8, zero := .nilf } := by kernel_rfl
theorem Lty259 : LE.ty 259 = some { kd := .func, size := 1, bytes := 8, zero := .nilf } := by kernel_rfl
theorem Lty260 : LE.ty 260 = some { kd := .func, size := 1, bytes := 8, zero := .nilf } := by kernel_rfl
theorem Lty262 : LE.ty 262 = some { kd := .func, size := 1, bytes := 8, zero := .nilf } := by kernel_rfl
theorem Lty263 : LE.ty 263 = some { kd := .func, size := 1, bytes := 8, zero := .nilf } := by kernel_rfl
theorem Lty264 : LE.ty 264 = some { kd := .func, size := 1, bytes := 8, zero := .nilf } := by kernel_rfl
theorem Lty265 : LE.ty 265 = some { kd := .func, size := 1, bytes := 8, zero := .nilf } := by kernel_rfl
theorem Lty267 : LE.ty 267 = some { kd := .func, size := 1, bytes := 8, zero := .nilf } := by kernel_rfl
theorem Lty268 : LE.ty 268 = some { kd := .func, size := 1, bytes := 8, zero := .nilf } := by kernel_rfl
theorem Lty269 : LE.ty 269 = some { kd := .func, size := 1, bytes := 8, zero := .nilf } := by kernel_rfl
theorem Lty270 : LE.ty 270 = some { kd := .func, size := 1, bytes := 8, zero := .nilf } := by kernel_rfl
theorem Lty271 : LE.ty 271 = some { kd := .func, size := 1, bytes := 8, zero := .nilf } := by kernel_rfl
theorem Lty272 : LE.ty 272 = some { kd := .func, size := 1, bytes := 8, zero := .nilf } := by kernel_rfl
theorem Lty273 : LE.ty 273 = some { kd := .func, size := 1, bytes := 8, zero := .nilf } := by kernel_rfl
theorem Lty274 : LE.ty 274 = some { kd := .func, size := 1, bytes := 8, zero := .nilf } := by kernel_rfl
theorem Lty275 : LE.ty 275 = some { kd := .func, size := 1, bytes := 8, zero := .nilf } := by kernel_rfl
theorem Lty276 : LE.ty 276 = some { kd := .func, size := 1, bytes := 8, zero := .nilf } := by kernel_rfl
theorem Lty278 : LE.ty 278 = some { kd := .func, size := 1, bytes := 8, zero := .nilf } := by kernel_rfl
theorem Lty279 : LE.ty 279 = some { kd := .ptr 5, size := 1, bytes := 8, zero := .nilp } := by kernel_rfl
theorem Lty280 : LE.ty 280 = some { kd := .func, size := 1, bytes := 8, zero := .nilf } := by kernel_rfl
theorem Lty282 : LE.ty 282 = some { kd := .func, size := 1, bytes := 8, zero := .nilf } := by kernel_rfl
theorem Lty283 : LE.ty 283 = some { kd := .func, size := 1, bytes := 8, zero := .nilf } := by kernel_rfl
theorem Lty285 : LE.ty 285 = some { kd := .func, size := 1, bytes := 8, zero := .nilf } := by kernel_rfl
theorem Lty286 : LE.ty 286 = some { kd := .func, size := 1, bytes := 8, zero := .nilf } := by kernel_rfl
theorem Lty287 : LE.ty 287 = some { kd := .func, size := 1, bytes := 8, zero := .nilf } := by kernel_rfl
theorem Lty288 : LE.ty 288 = some { kd := .func, size := 1, bytes := 8, zero := .nilf } := by kernel_rfl
theorem Lty289 : LE.ty 289 = some { kd := .func, size := 1, bytes := 8, zero := .nilf } := by kernel_rfl
theorem Lty290 : LE.ty 290 = some { kd := .other, size := 1, bytes := 8, zero := .nilp } := by kernel_rfl
theorem Lty291 : LE.ty 291 = some { kd := .func, size := 1, bytes := 8, zero := .nilf } := by kernel_rfl
theorem Lty292 : LE.ty 292 = some { kd := .func, size := 1, bytes := 8, zero := .nilf } := by kernel_rfl
theorem Lty293 : LE.ty 293 = some { kd := .func, size := 1, bytes := 8, zero := .nilf } := by kernel_rfl
theorem Lty294 : LE.ty 294 = some { kd := .func, size := 1, bytes := 8, zero := .nilf } := by kernel_rfl
theorem Lty295 : LE.ty 295 = some { kd := .func, size := 1, bytes := 8, zero := .nilf } := by kernel_rfl
theorem Lty297 : LE.ty 297 = some { kd := .strct [(0, 5), (1, 5)], size := 2, bytes := 2, zero := .agg [.int .u8 0, .int .u8 0] } := by kernel_rfl
theorem Lty298 : LE.ty 298 = some { kd := .strct [(0, 5), (1, 5)], size := 2, bytes := 2, zero := .agg [.int .u8 0, .int .u8 0] } := by kernel_rfl
theorem Lty299 : LE.ty 299 = some { kd := .arr 16 298, size := 32, bytes := 32, zero := .agg [.int .u8 0, .int .u8 0, .int .u8 0, .int .u8 0, .int .u8 0, .int .u8 0, .int .u8 0, .int .u8 0, .int .u8 0, .int .u8 0, .int .u8 0, .int .u8 0, .int .u8 0, .int .u8 0, .int .u8 0, .int .u8 0, .int .u8 0, .int .u8 0, .int .u8 0, .int .u8 0, .int .u8 0, .int .u8 0, .int .u8 0, .int .u8 0, .int .u8 0, .int .u8 0, .int .u8 0, .int .u8 0, .int .u8 0, .int .u8 0, .int .u8 0, .int .u8 0] } := by kernel_rfl
theorem Lty301 : LE.ty 301 = some { kd := .func, size := 1, bytes := 8, zero := .nilf } := by kernel_rfl
theorem Lty302 : LE.ty 302 = some { kd := .arr 24 5, size := 24, bytes := 24, zero := .agg [.int .u8 0, .int .u8 0, .int .u8 0, .int .u8 0, .int .u8 0, .int .u8 0, .int .u8 0, .int .u8 0, .int .u8 0, .int .u8 0, .int .u8 0, .int .u8 0, .int .u8 0, .int .u8 0, .int .u8 0, .int .u8 0, .int .u8 0, .int .u8 0, .int .u8 0, .int .u8 0, .int .u8 0, .int .u8 0, .int .u8 0, .int .u8 0] } := by kernel_rfl
theorem Lty303 : LE.ty 303 = some { kd := .func, size := 1, bytes := 8, zero := .nilf } := by kernel_rfl
theorem Lty305 : LE.ty 305 = some { kd := .func, size := 1, bytes := 8, zero := .nilf } := by kernel_rfl
theorem Lty306 : LE.ty 306 = some { kd := .int .i64, size := 1, bytes := 8, zero := .int .i64 0 } := by kernel_rfl
theorem Lty308 : LE.ty 308 = some { kd := .func, size := 1, bytes := 8, zero := .nilf } := by kernel_rfl
theorem Lty309 : LE.ty 309 = some { kd := .ptr 318, size := 1, bytes := 8, zero := .nilp } := by kernel_rfl
theorem Lty310 : LE.ty 310 = some { kd := .func, size := 1, bytes := 8, zero := .nilf } := by kernel_rfl
theorem Lty311 : LE.ty 311 = some { kd := .func, size := 1, bytes := 8, zero := .nilf } := by kernel_rfl
theorem Lty312 : LE.ty 312 = some { kd := .arr 20 172, size := 20, bytes := 160, zero := .agg [.int .u64 0, .int .u64 0, .int .u64 0, .int .u64 0, .int .u64 0, .int .u64 0, .int .u64 0, .int .u64 0, .int .u64 0, .int .u64 0, .int .u64 0, .int .u64 0, .int .u64 0, .int .u64 0, .int .u64 0, .int .u64 0, .int .u64 0, .int .u64 0, .int .u64 0, .int .u64 0] } := by kernel_rfl
theorem Lty314 : LE.ty 314 = some { kd := .func, size := 1, bytes := 8, zero := .nilf } := by kernel_rfl
theorem Lty316 : LE.ty 316 = some { kd := .func, size := 1, bytes := 8, zero := .nilf } := by kernel_rfl
theorem Lty317 : LE.ty 317 = some { kd := .strct [(0, 9), (1, 9), (2, 251)], size := 3, bytes := 48, zero := .agg [.str [], .str [], .nili] } := by kernel_rfl
theorem Lty318 : LE.ty 318 = some { kd := .strct [(0, 9), (1, 9), (2, 251)], size := 3, bytes := 48, zero := .agg [.str [], .str [], .nili] } := by kernel_rfl
theorem Lty319 : LE.ty 319 = some { kd := .func, size := 1, bytes := 8, zero := .nilf } := by kernel_rfl
theorem Lty320 : LE.ty 320 = some { kd := .func, size := 1, bytes := 8, zero := .nilf } := by kernel_rfl
theorem Lty321 : LE.ty 321 = some { kd := .ptr 323, size := 1, bytes := 8, zero := .nilp } := by kernel_rfl
theorem Lty322 : LE.ty 322 = some { kd := .strct [(0, 9)], size := 1, bytes := 16, zero := .agg [.str []] } := by kernel_rfl
theorem Lty323 : LE.ty 323 = some { kd := .strct [(0, 9)], size := 1, bytes := 16, zero := .agg [.str []] } := by kernel_rfl
theorem Lty324 : LE.ty 324 = some { kd := .arr 32 5, size := 32, bytes := 32, zero := .agg [.int .u8 0, .int .u8 0, .int .u8 0, .int .u8 0, .int .u8 0, .int .u8 0, .int .u8 0, .int .u8 0, .int .u8 0, .int .u8 0, .int .u8 0, .int .u8 0, .int .u8 0, .int .u8 0, .int .u8 0, .int .u8 0, .int .u8 0, .int .u8 0, .int .u8 0, .int .u8 0, .int .u8 0, .int .u8 0, .int .u8 0, .int .u8 0, .int .u8 0, .int .u8 0, .int .u8 0, .int .u8 0, .int .u8 0, .int .u8 0, .int .u8 0, .int .u8 0] } := by kernel_rfl
theorem Lty325 : LE.ty 325 = some { kd := .arr 64 5, size := 64, bytes := 64, zero := .agg [.int .u8 0, .int .u8 0, .int .u8 0, .int .u8 0, .int .u8 0, .int .u8 0, .int .u8 0, .int .u8 0, .int .u8 0, .int .u8 0, .int .u8 0, .int .u8 0, .int .u8 0, .int .u8 0, .int .u8 0, .int .u8 0, .int .u8 0, .int .u8 0, .int .u8 0, .int .u8 0, .int .u8 0, .int .u8 0, .int .u8 0, .int .u8 0, .int .u8 0, .int .u8 0, .int .u8 0, .int .u8 0, .int .u8 0, .int .u8 0, .int .u8 0, .int .u8 0, .int .u8 0, .int .u8 0, .int .u8 0, .int .u8 0, .int .u8 0, .int .u8 0, .int .u8 0, .int .u8 0, .int .u8 0, .int .u8 0, .int .u8 0, .int .u8 0, .int .u8 0, .int .u8 0, .int .u8 0, .int .u8 0, .int .u8 0, .int .u8 0, .int .u8 0, .int .u8 0, .int .u8 0, .int .u8 0, .int .u8 0, .int .u8 0, .int .u8 0, .int .u8 0, .int .u8 0, .int .u8 0, .int .u8 0, .int .u8 0, .int .u8 0, .int .u8 0] } := by kernel_rfl
theorem Lty326 : LE.ty 326 = some { kd := .strct [(0, 17), (1, 17), (2, 17), (3, 9)], size := 4, bytes := 40, zero := .agg [.nilp, .nilp, .nilp, .str []] } := by kernel_rfl
theorem Lty327 : LE.ty 327 = some { kd := .strct [(0, 17), (1, 17), (2, 17), (3, 9)], size := 4, bytes := 40, zero := .agg [.nilp, .nilp, .nilp, .str []] } := by kernel_rfl
theorem Lty328 : LE.ty 328 = some { kd := .arr 0 16, size := 0, bytes := 0, zero := .agg [] } := by kernel_rfl
theorem Lty329 : LE.ty 329 = some { kd := .strct [(0, 328)], size := 0, bytes := 0, zero := .agg [] } := by kernel_rfl
theorem Lty330 : LE.ty 330 = some { kd := .strct [(0, 328)], size := 0, bytes := 0, zero := .agg [] } := by kernel_rfl
theorem Lty331 : LE.ty 331 = some { kd := .int .u8, size := 1, bytes := 1, zero := .int .u8 0 } := by kernel_rfl
theorem Lty332 : LE.ty 332 = some { kd := .int .u8, size := 1, bytes := 1, zero := .int .u8 0 } := by kernel_rfl
theorem Lty333 : LE.ty 333 = some { kd := .func, size := 1, bytes := 8, zero := .nilf } := by kernel_rfl
theorem Lty334 : LE.ty 334 = some { kd := .int .i32, size := 1, bytes := 4, zero := .int .i32 0 } := by kernel_rfl
theorem Lty335 : LE.ty 335 = some { kd := .int .i32, size := 1, bytes := 4, zero := .int .i32 0 } := by kernel_rfl
theorem Lty336 : LE.ty 336 = some { kd := .strct [(0, 12), (1, 12), (2, 170), (3, 331), (4, 5), (5, 5), (6, 332), (7, 333), (8, 279), (9, 334), (10, 335)], size := 11, bytes := 48, zero := .agg [.int .u64 0, .int .u64 0, .int .u32 0, .int .u8 0, .int .u8 0, .int .u8 0, .int .u8 0, .nilf, .nilp, .int .i32 0, .int .i32 0] } := by kernel_rfl
theorem Lty337 : LE.ty 337 = some { kd := .strct [(0, 12), (1, 12), (2, 170), (3, 331), (4, 5), (5, 5), (6, 332), (7, 333), (8, 279), (9, 334), (10, 335)], size := 11, bytes := 48, zero := .agg [.int .u64 0, .int .u64 0, .int .u32 0, .int .u8 0, .int .u8 0, .int .u8 0, .int .u8 0, .nilf, .nilp, .int .i32 0, .int .i32 0] } := by kernel_rfl
theorem Leq7 : LE.eqs 7 = some [.int .i64, .int .i64, .bool, .int .u8] := by kernel_rfl
theorem Leq8 : LE.eqs 8 = some [.int .i64, .int .i64, .bool, .int .u8] := by kernel_rfl
theorem Leq33 : LE.eqs 33 = some [.bool, .str] := by kernel_rfl
theorem Leq34 : LE.eqs 34 = some [.bool, .str] := by kernel_rfl
theorem Leq139 : LE.eqs 139 = some [.bool, .str] := by kernel_rfl
theorem Leq140 : LE.eqs 140 = some [.bool, .str] := by kernel_rfl
theorem Leq144 : LE.eqs 144 = some [.str, .str] := by kernel_rfl
theorem Leq145 : LE.eqs 145 = some [.str, .str] := by kernel_rfl
theorem Leq206 : LE.eqs 206 = some [.int .i64, .int .i64] := by kernel_rfl
theorem Leq207 : LE.eqs 207 = some [.int .i64, .int .i64] := by kernel_rfl
theorem Leq212 : LE.eqs 212 = some [.int .i64, .int .i64, .str] := by kernel_rfl
theorem Leq213 : LE.eqs 213 = some [.int .i64, .int .i64, .str] := by kernel_rfl
theorem Leq297 : LE.eqs 297 = some [.int .u8, .int .u8] := by kernel_rfl
theorem Leq298 : LE.eqs 298 = some [.int .u8, .int .u8] := by kernel_rfl
theorem Leq322 : LE.eqs 322 = some [.str] := by kernel_rfl
theorem Leq323 : LE.eqs 323 = some [.str] := by kernel_rfl
end Go.Proofs.YtmbhjdkbcgngiaaGreatDoor
