/- AX: the seat's types and functions: printed by tab.py. -/
/- AX: what library functions answer, for the kernel. -/
/- AX: calls whose answers are known: a table of answers is a function's spec. -/
/- AX: the seat's environment: printed by modes.py. -/
import Derived.Test.YtmbhjdkbcgngiaaGreatDoorZ2
import Derived.Test.YtmbhjdkbcgngiaaGreatDoorProg
import Derived.KernelRfl
section
namespace Go.Proofs.YtmbhjdkbcgngiaaGreatDoor
open Go Go.Ax
def ty1 : Ty := { kd := .func, size := 1, bytes := 8, zero := .nilf }
theorem tyok1 : TyOk Tryz.prog 1 ty1 := TyOk.of Tryz.type1 Tryz.underlying1 (by kernel_rfl)
def ty2 : Ty := { kd := .int .i64, size := 1, bytes := 8, zero := .int .i64 0 }
theorem tyok2 : TyOk Tryz.prog 2 ty2 := TyOk.of Tryz.type2 Tryz.underlying2 (by kernel_rfl)
def ty3 : Ty := { kd := .int .i64, size := 1, bytes := 8, zero := .int .i64 0 }
theorem tyok3 : TyOk Tryz.prog 3 ty3 := TyOk.of Tryz.type3 Tryz.underlying3 (by kernel_rfl)
def ty4 : Ty := { kd := .bool, size := 1, bytes := 1, zero := .bool false }
theorem tyok4 : TyOk Tryz.prog 4 ty4 := TyOk.of Tryz.type4 Tryz.underlying4 (by kernel_rfl)
def ty5 : Ty := { kd := .int .u8, size := 1, bytes := 1, zero := .int .u8 0 }
theorem tyok5 : TyOk Tryz.prog 5 ty5 := TyOk.of Tryz.type5 Tryz.underlying5 (by kernel_rfl)
def ty6 : Ty := { kd := .int .u8, size := 1, bytes := 1, zero := .int .u8 0 }
theorem tyok6 : TyOk Tryz.prog 6 ty6 := TyOk.of Tryz.type6 Tryz.underlying6 (by kernel_rfl)
def ty7 : Ty := { kd := .strct [(0, 2), (1, 3), (2, 4), (3, 6)], size := 4, bytes := 24, zero := .agg [.int .i64 0, .int .i64 0, .bool false, .int .u8 0] }
theorem tyok7 : TyOk Tryz.prog 7 ty7 := TyOk.of Tryz.type7 Tryz.underlying7 (by kernel_rfl)
def ty8 : Ty := { kd := .strct [(0, 2), (1, 3), (2, 4), (3, 6)], size := 4, bytes := 24, zero := .agg [.int .i64 0, .int .i64 0, .bool false, .int .u8 0] }
theorem tyok8 : TyOk Tryz.prog 8 ty8 := TyOk.of Tryz.type8 Tryz.underlying8 (by kernel_rfl)
def ty9 : Ty := { kd := .str, size := 1, bytes := 16, zero := .str [] }
theorem tyok9 : TyOk Tryz.prog 9 ty9 := TyOk.of Tryz.type9 Tryz.underlying9 (by kernel_rfl)
def ty10 : Ty := { kd := .str, size := 1, bytes := 16, zero := .str [] }
theorem tyok10 : TyOk Tryz.prog 10 ty10 := TyOk.of Tryz.type10 Tryz.underlying10 (by kernel_rfl)
def ty11 : Ty := { kd := .str, size := 1, bytes := 16, zero := .str [] }
theorem tyok11 : TyOk Tryz.prog 11 ty11 := TyOk.of Tryz.type11 Tryz.underlying11 (by kernel_rfl)
def ty12 : Ty := { kd := .int .u64, size := 1, bytes := 8, zero := .int .u64 0 }
theorem tyok12 : TyOk Tryz.prog 12 ty12 := TyOk.of Tryz.type12 Tryz.underlying12 (by kernel_rfl)
def ty13 : Ty := { kd := .strct [(0, 9), (1, 12)], size := 2, bytes := 24, zero := .agg [.str [], .int .u64 0] }
theorem tyok13 : TyOk Tryz.prog 13 ty13 := TyOk.of Tryz.type13 Tryz.underlying13 (by kernel_rfl)
def ty14 : Ty := { kd := .strct [(0, 9), (1, 12)], size := 2, bytes := 24, zero := .agg [.str [], .int .u64 0] }
theorem tyok14 : TyOk Tryz.prog 14 ty14 := TyOk.of Tryz.type14 Tryz.underlying14 (by kernel_rfl)
def ty15 : Ty := { kd := .ptr 327, size := 1, bytes := 8, zero := .nilp }
theorem tyok15 : TyOk Tryz.prog 15 ty15 := TyOk.of Tryz.type15 Tryz.underlying15 (by kernel_rfl)
def ty16 : Ty := { kd := .ptr 330, size := 1, bytes := 8, zero := .nilp }
theorem tyok16 : TyOk Tryz.prog 16 ty16 := TyOk.of Tryz.type16 Tryz.underlying16 (by kernel_rfl)
def ty17 : Ty := { kd := .ptr 337, size := 1, bytes := 8, zero := .nilp }
theorem tyok17 : TyOk Tryz.prog 17 ty17 := TyOk.of Tryz.type17 Tryz.underlying17 (by kernel_rfl)
def ty18 : Ty := { kd := .strct [(0, 17)], size := 1, bytes := 8, zero := .agg [.nilp] }
theorem tyok18 : TyOk Tryz.prog 18 ty18 := TyOk.of Tryz.type18 Tryz.underlying18 (by kernel_rfl)
def ty19 : Ty := { kd := .strct [(0, 17)], size := 1, bytes := 8, zero := .agg [.nilp] }
theorem tyok19 : TyOk Tryz.prog 19 ty19 := TyOk.of Tryz.type19 Tryz.underlying19 (by kernel_rfl)
def ty20 : Ty := { kd := .ifc, size := 1, bytes := 16, zero := .nili }
theorem tyok20 : TyOk Tryz.prog 20 ty20 := TyOk.of Tryz.type20 Tryz.underlying20 (by kernel_rfl)
def ty21 : Ty := { kd := .int .i32, size := 1, bytes := 4, zero := .int .i32 0 }
theorem tyok21 : TyOk Tryz.prog 21 ty21 := TyOk.of Tryz.type21 Tryz.underlying21 (by kernel_rfl)
def ty22 : Ty := { kd := .sl 34, size := 1, bytes := 24, zero := .nils }
theorem tyok22 : TyOk Tryz.prog 22 ty22 := TyOk.of Tryz.type22 Tryz.underlying22 (by kernel_rfl)
def ty23 : Ty := { kd := .func, size := 1, bytes := 8, zero := .nilf }
theorem tyok23 : TyOk Tryz.prog 23 ty23 := TyOk.of Tryz.type23 Tryz.underlying23 (by kernel_rfl)
def ty24 : Ty := { kd := .func, size := 1, bytes := 8, zero := .nilf }
theorem tyok24 : TyOk Tryz.prog 24 ty24 := TyOk.of Tryz.type24 Tryz.underlying24 (by kernel_rfl)
def ty25 : Ty := { kd := .ptr 32, size := 1, bytes := 8, zero := .nilp }
theorem tyok25 : TyOk Tryz.prog 25 ty25 := TyOk.of Tryz.type25 Tryz.underlying25 (by kernel_rfl)
def ty26 : Ty := { kd := .func, size := 1, bytes := 8, zero := .nilf }
theorem tyok26 : TyOk Tryz.prog 26 ty26 := TyOk.of Tryz.type26 Tryz.underlying26 (by kernel_rfl)
def ty27 : Ty := { kd := .func, size := 1, bytes := 8, zero := .nilf }
theorem tyok27 : TyOk Tryz.prog 27 ty27 := TyOk.of Tryz.type27 Tryz.underlying27 (by kernel_rfl)
def ty28 : Ty := { kd := .map 34 4, size := 1, bytes := 8, zero := .nilm }
theorem tyok28 : TyOk Tryz.prog 28 ty28 := TyOk.of Tryz.type28 Tryz.underlying28 (by kernel_rfl)
def ty29 : Ty := { kd := .strct [(0, 28)], size := 1, bytes := 8, zero := .agg [.nilm] }
theorem tyok29 : TyOk Tryz.prog 29 ty29 := TyOk.of Tryz.type29 Tryz.underlying29 (by kernel_rfl)
def ty30 : Ty := { kd := .strct [(0, 28)], size := 1, bytes := 8, zero := .agg [.nilm] }
theorem tyok30 : TyOk Tryz.prog 30 ty30 := TyOk.of Tryz.type30 Tryz.underlying30 (by kernel_rfl)
def ty31 : Ty := { kd := .strct [(0, 30)], size := 1, bytes := 8, zero := .agg [.nilm] }
theorem tyok31 : TyOk Tryz.prog 31 ty31 := TyOk.of Tryz.type31 Tryz.underlying31 (by kernel_rfl)
def ty32 : Ty := { kd := .strct [(0, 30)], size := 1, bytes := 8, zero := .agg [.nilm] }
theorem tyok32 : TyOk Tryz.prog 32 ty32 := TyOk.of Tryz.type32 Tryz.underlying32 (by kernel_rfl)
def ty33 : Ty := { kd := .strct [(0, 4), (1, 9)], size := 2, bytes := 24, zero := .agg [.bool false, .str []] }
theorem tyok33 : TyOk Tryz.prog 33 ty33 := TyOk.of Tryz.type33 Tryz.underlying33 (by kernel_rfl)
def ty34 : Ty := { kd := .strct [(0, 4), (1, 9)], size := 2, bytes := 24, zero := .agg [.bool false, .str []] }
theorem tyok34 : TyOk Tryz.prog 34 ty34 := TyOk.of Tryz.type34 Tryz.underlying34 (by kernel_rfl)
def ty35 : Ty := { kd := .func, size := 1, bytes := 8, zero := .nilf }
theorem tyok35 : TyOk Tryz.prog 35 ty35 := TyOk.of Tryz.type35 Tryz.underlying35 (by kernel_rfl)
def ty36 : Ty := { kd := .func, size := 1, bytes := 8, zero := .nilf }
theorem tyok36 : TyOk Tryz.prog 36 ty36 := TyOk.of Tryz.type36 Tryz.underlying36 (by kernel_rfl)
def ty37 : Ty := { kd := .func, size := 1, bytes := 8, zero := .nilf }
theorem tyok37 : TyOk Tryz.prog 37 ty37 := TyOk.of Tryz.type37 Tryz.underlying37 (by kernel_rfl)
def ty38 : Ty := { kd := .func, size := 1, bytes := 8, zero := .nilf }
theorem tyok38 : TyOk Tryz.prog 38 ty38 := TyOk.of Tryz.type38 Tryz.underlying38 (by kernel_rfl)
def ty39 : Ty := { kd := .func, size := 1, bytes := 8, zero := .nilf }
theorem tyok39 : TyOk Tryz.prog 39 ty39 := TyOk.of Tryz.type39 Tryz.underlying39 (by kernel_rfl)
def ty40 : Ty := { kd := .func, size := 1, bytes := 8, zero := .nilf }
theorem tyok40 : TyOk Tryz.prog 40 ty40 := TyOk.of Tryz.type40 Tryz.underlying40 (by kernel_rfl)
def ty41 : Ty := { kd := .func, size := 1, bytes := 8, zero := .nilf }
theorem tyok41 : TyOk Tryz.prog 41 ty41 := TyOk.of Tryz.type41 Tryz.underlying41 (by kernel_rfl)
def ty42 : Ty := { kd := .func, size := 1, bytes := 8, zero := .nilf }
theorem tyok42 : TyOk Tryz.prog 42 ty42 := TyOk.of Tryz.type42 Tryz.underlying42 (by kernel_rfl)
def ty43 : Ty := { kd := .sl 48, size := 1, bytes := 24, zero := .nils }
theorem tyok43 : TyOk Tryz.prog 43 ty43 := TyOk.of Tryz.type43 Tryz.underlying43 (by kernel_rfl)
def ty44 : Ty := { kd := .sl 9, size := 1, bytes := 24, zero := .nils }
theorem tyok44 : TyOk Tryz.prog 44 ty44 := TyOk.of Tryz.type44 Tryz.underlying44 (by kernel_rfl)
def ty45 : Ty := { kd := .func, size := 1, bytes := 8, zero := .nilf }
theorem tyok45 : TyOk Tryz.prog 45 ty45 := TyOk.of Tryz.type45 Tryz.underlying45 (by kernel_rfl)
def ty46 : Ty := { kd := .sl 87, size := 1, bytes := 24, zero := .nils }
theorem tyok46 : TyOk Tryz.prog 46 ty46 := TyOk.of Tryz.type46 Tryz.underlying46 (by kernel_rfl)
def ty47 : Ty := { kd := .strct [(0, 9), (1, 44), (2, 44), (3, 44), (4, 46)], size := 5, bytes := 112, zero := .agg [.str [], .nils, .nils, .nils, .nils] }
theorem tyok47 : TyOk Tryz.prog 47 ty47 := TyOk.of Tryz.type47 Tryz.underlying47 (by kernel_rfl)
def ty48 : Ty := { kd := .strct [(0, 9), (1, 44), (2, 44), (3, 44), (4, 46)], size := 5, bytes := 112, zero := .agg [.str [], .nils, .nils, .nils, .nils] }
theorem tyok48 : TyOk Tryz.prog 48 ty48 := TyOk.of Tryz.type48 Tryz.underlying48 (by kernel_rfl)
def ty49 : Ty := { kd := .func, size := 1, bytes := 8, zero := .nilf }
theorem tyok49 : TyOk Tryz.prog 49 ty49 := TyOk.of Tryz.type49 Tryz.underlying49 (by kernel_rfl)
def ty50 : Ty := { kd := .func, size := 1, bytes := 8, zero := .nilf }
theorem tyok50 : TyOk Tryz.prog 50 ty50 := TyOk.of Tryz.type50 Tryz.underlying50 (by kernel_rfl)
def ty51 : Ty := { kd := .func, size := 1, bytes := 8, zero := .nilf }
theorem tyok51 : TyOk Tryz.prog 51 ty51 := TyOk.of Tryz.type51 Tryz.underlying51 (by kernel_rfl)
def ty52 : Ty := { kd := .func, size := 1, bytes := 8, zero := .nilf }
theorem tyok52 : TyOk Tryz.prog 52 ty52 := TyOk.of Tryz.type52 Tryz.underlying52 (by kernel_rfl)
def ty53 : Ty := { kd := .func, size := 1, bytes := 8, zero := .nilf }
theorem tyok53 : TyOk Tryz.prog 53 ty53 := TyOk.of Tryz.type53 Tryz.underlying53 (by kernel_rfl)
def ty54 : Ty := { kd := .func, size := 1, bytes := 8, zero := .nilf }
theorem tyok54 : TyOk Tryz.prog 54 ty54 := TyOk.of Tryz.type54 Tryz.underlying54 (by kernel_rfl)
def ty55 : Ty := { kd := .func, size := 1, bytes := 8, zero := .nilf }
theorem tyok55 : TyOk Tryz.prog 55 ty55 := TyOk.of Tryz.type55 Tryz.underlying55 (by kernel_rfl)
def ty56 : Ty := { kd := .func, size := 1, bytes := 8, zero := .nilf }
theorem tyok56 : TyOk Tryz.prog 56 ty56 := TyOk.of Tryz.type56 Tryz.underlying56 (by kernel_rfl)
def ty57 : Ty := { kd := .func, size := 1, bytes := 8, zero := .nilf }
theorem tyok57 : TyOk Tryz.prog 57 ty57 := TyOk.of Tryz.type57 Tryz.underlying57 (by kernel_rfl)
def ty58 : Ty := { kd := .func, size := 1, bytes := 8, zero := .nilf }
theorem tyok58 : TyOk Tryz.prog 58 ty58 := TyOk.of Tryz.type58 Tryz.underlying58 (by kernel_rfl)
def ty59 : Ty := { kd := .func, size := 1, bytes := 8, zero := .nilf }
theorem tyok59 : TyOk Tryz.prog 59 ty59 := TyOk.of Tryz.type59 Tryz.underlying59 (by kernel_rfl)
def ty60 : Ty := { kd := .ptr 107, size := 1, bytes := 8, zero := .nilp }
theorem tyok60 : TyOk Tryz.prog 60 ty60 := TyOk.of Tryz.type60 Tryz.underlying60 (by kernel_rfl)
def ty61 : Ty := { kd := .ptr 30, size := 1, bytes := 8, zero := .nilp }
theorem tyok61 : TyOk Tryz.prog 61 ty61 := TyOk.of Tryz.type61 Tryz.underlying61 (by kernel_rfl)
def ty63 : Ty := { kd := .func, size := 1, bytes := 8, zero := .nilf }
theorem tyok63 : TyOk Tryz.prog 63 ty63 := TyOk.of Tryz.type63 Tryz.underlying63 (by kernel_rfl)
def ty65 : Ty := { kd := .func, size := 1, bytes := 8, zero := .nilf }
theorem tyok65 : TyOk Tryz.prog 65 ty65 := TyOk.of Tryz.type65 Tryz.underlying65 (by kernel_rfl)
def ty66 : Ty := { kd := .func, size := 1, bytes := 8, zero := .nilf }
theorem tyok66 : TyOk Tryz.prog 66 ty66 := TyOk.of Tryz.type66 Tryz.underlying66 (by kernel_rfl)
def ty67 : Ty := { kd := .func, size := 1, bytes := 8, zero := .nilf }
theorem tyok67 : TyOk Tryz.prog 67 ty67 := TyOk.of Tryz.type67 Tryz.underlying67 (by kernel_rfl)
def ty68 : Ty := { kd := .func, size := 1, bytes := 8, zero := .nilf }
theorem tyok68 : TyOk Tryz.prog 68 ty68 := TyOk.of Tryz.type68 Tryz.underlying68 (by kernel_rfl)
def ty69 : Ty := { kd := .func, size := 1, bytes := 8, zero := .nilf }
theorem tyok69 : TyOk Tryz.prog 69 ty69 := TyOk.of Tryz.type69 Tryz.underlying69 (by kernel_rfl)
def ty70 : Ty := { kd := .func, size := 1, bytes := 8, zero := .nilf }
theorem tyok70 : TyOk Tryz.prog 70 ty70 := TyOk.of Tryz.type70 Tryz.underlying70 (by kernel_rfl)
def ty71 : Ty := { kd := .func, size := 1, bytes := 8, zero := .nilf }
theorem tyok71 : TyOk Tryz.prog 71 ty71 := TyOk.of Tryz.type71 Tryz.underlying71 (by kernel_rfl)
def ty72 : Ty := { kd := .func, size := 1, bytes := 8, zero := .nilf }
theorem tyok72 : TyOk Tryz.prog 72 ty72 := TyOk.of Tryz.type72 Tryz.underlying72 (by kernel_rfl)
def ty73 : Ty := { kd := .func, size := 1, bytes := 8, zero := .nilf }
theorem tyok73 : TyOk Tryz.prog 73 ty73 := TyOk.of Tryz.type73 Tryz.underlying73 (by kernel_rfl)
def ty74 : Ty := { kd := .sl 44, size := 1, bytes := 24, zero := .nils }
theorem tyok74 : TyOk Tryz.prog 74 ty74 := TyOk.of Tryz.type74 Tryz.underlying74 (by kernel_rfl)
def ty75 : Ty := { kd := .func, size := 1, bytes := 8, zero := .nilf }
theorem tyok75 : TyOk Tryz.prog 75 ty75 := TyOk.of Tryz.type75 Tryz.underlying75 (by kernel_rfl)
def ty76 : Ty := { kd := .func, size := 1, bytes := 8, zero := .nilf }
theorem tyok76 : TyOk Tryz.prog 76 ty76 := TyOk.of Tryz.type76 Tryz.underlying76 (by kernel_rfl)
def ty77 : Ty := { kd := .func, size := 1, bytes := 8, zero := .nilf }
theorem tyok77 : TyOk Tryz.prog 77 ty77 := TyOk.of Tryz.type77 Tryz.underlying77 (by kernel_rfl)
def ty78 : Ty := { kd := .sl 22, size := 1, bytes := 24, zero := .nils }
theorem tyok78 : TyOk Tryz.prog 78 ty78 := TyOk.of Tryz.type78 Tryz.underlying78 (by kernel_rfl)
def ty79 : Ty := { kd := .func, size := 1, bytes := 8, zero := .nilf }
theorem tyok79 : TyOk Tryz.prog 79 ty79 := TyOk.of Tryz.type79 Tryz.underlying79 (by kernel_rfl)
def ty80 : Ty := { kd := .func, size := 1, bytes := 8, zero := .nilf }
theorem tyok80 : TyOk Tryz.prog 80 ty80 := TyOk.of Tryz.type80 Tryz.underlying80 (by kernel_rfl)
def ty81 : Ty := { kd := .func, size := 1, bytes := 8, zero := .nilf }
theorem tyok81 : TyOk Tryz.prog 81 ty81 := TyOk.of Tryz.type81 Tryz.underlying81 (by kernel_rfl)
def ty82 : Ty := { kd := .func, size := 1, bytes := 8, zero := .nilf }
theorem tyok82 : TyOk Tryz.prog 82 ty82 := TyOk.of Tryz.type82 Tryz.underlying82 (by kernel_rfl)
def ty83 : Ty := { kd := .func, size := 1, bytes := 8, zero := .nilf }
theorem tyok83 : TyOk Tryz.prog 83 ty83 := TyOk.of Tryz.type83 Tryz.underlying83 (by kernel_rfl)
def ty84 : Ty := { kd := .func, size := 1, bytes := 8, zero := .nilf }
theorem tyok84 : TyOk Tryz.prog 84 ty84 := TyOk.of Tryz.type84 Tryz.underlying84 (by kernel_rfl)
def ty85 : Ty := { kd := .sl 5, size := 1, bytes := 24, zero := .nils }
theorem tyok85 : TyOk Tryz.prog 85 ty85 := TyOk.of Tryz.type85 Tryz.underlying85 (by kernel_rfl)
def ty86 : Ty := { kd := .strct [(0, 9), (1, 3), (2, 44), (3, 44), (4, 3)], size := 5, bytes := 80, zero := .agg [.str [], .int .i64 0, .nils, .nils, .int .i64 0] }
theorem tyok86 : TyOk Tryz.prog 86 ty86 := TyOk.of Tryz.type86 Tryz.underlying86 (by kernel_rfl)
def ty87 : Ty := { kd := .strct [(0, 9), (1, 3), (2, 44), (3, 44), (4, 3)], size := 5, bytes := 80, zero := .agg [.str [], .int .i64 0, .nils, .nils, .int .i64 0] }
theorem tyok87 : TyOk Tryz.prog 87 ty87 := TyOk.of Tryz.type87 Tryz.underlying87 (by kernel_rfl)
def ty88 : Ty := { kd := .int .i64, size := 1, bytes := 8, zero := .int .i64 0 }
theorem tyok88 : TyOk Tryz.prog 88 ty88 := TyOk.of Tryz.type88 Tryz.underlying88 (by kernel_rfl)
def ty90 : Ty := { kd := .func, size := 1, bytes := 8, zero := .nilf }
theorem tyok90 : TyOk Tryz.prog 90 ty90 := TyOk.of Tryz.type90 Tryz.underlying90 (by kernel_rfl)
def ty91 : Ty := { kd := .map 9 101, size := 1, bytes := 8, zero := .nilm }
theorem tyok91 : TyOk Tryz.prog 91 ty91 := TyOk.of Tryz.type91 Tryz.underlying91 (by kernel_rfl)
def ty92 : Ty := { kd := .func, size := 1, bytes := 8, zero := .nilf }
theorem tyok92 : TyOk Tryz.prog 92 ty92 := TyOk.of Tryz.type92 Tryz.underlying92 (by kernel_rfl)
def ty93 : Ty := { kd := .func, size := 1, bytes := 8, zero := .nilf }
theorem tyok93 : TyOk Tryz.prog 93 ty93 := TyOk.of Tryz.type93 Tryz.underlying93 (by kernel_rfl)
def ty94 : Ty := { kd := .func, size := 1, bytes := 8, zero := .nilf }
theorem tyok94 : TyOk Tryz.prog 94 ty94 := TyOk.of Tryz.type94 Tryz.underlying94 (by kernel_rfl)
def ty95 : Ty := { kd := .func, size := 1, bytes := 8, zero := .nilf }
theorem tyok95 : TyOk Tryz.prog 95 ty95 := TyOk.of Tryz.type95 Tryz.underlying95 (by kernel_rfl)
def ty96 : Ty := { kd := .func, size := 1, bytes := 8, zero := .nilf }
theorem tyok96 : TyOk Tryz.prog 96 ty96 := TyOk.of Tryz.type96 Tryz.underlying96 (by kernel_rfl)
def ty97 : Ty := { kd := .func, size := 1, bytes := 8, zero := .nilf }
theorem tyok97 : TyOk Tryz.prog 97 ty97 := TyOk.of Tryz.type97 Tryz.underlying97 (by kernel_rfl)
def ty98 : Ty := { kd := .func, size := 1, bytes := 8, zero := .nilf }
theorem tyok98 : TyOk Tryz.prog 98 ty98 := TyOk.of Tryz.type98 Tryz.underlying98 (by kernel_rfl)
def ty99 : Ty := { kd := .func, size := 1, bytes := 8, zero := .nilf }
theorem tyok99 : TyOk Tryz.prog 99 ty99 := TyOk.of Tryz.type99 Tryz.underlying99 (by kernel_rfl)
def ty100 : Ty := { kd := .func, size := 1, bytes := 8, zero := .nilf }
theorem tyok100 : TyOk Tryz.prog 100 ty100 := TyOk.of Tryz.type100 Tryz.underlying100 (by kernel_rfl)
def ty101 : Ty := { kd := .map 9 4, size := 1, bytes := 8, zero := .nilm }
theorem tyok101 : TyOk Tryz.prog 101 ty101 := TyOk.of Tryz.type101 Tryz.underlying101 (by kernel_rfl)
def ty102 : Ty := { kd := .func, size := 1, bytes := 8, zero := .nilf }
theorem tyok102 : TyOk Tryz.prog 102 ty102 := TyOk.of Tryz.type102 Tryz.underlying102 (by kernel_rfl)
def ty103 : Ty := { kd := .map 9 48, size := 1, bytes := 8, zero := .nilm }
theorem tyok103 : TyOk Tryz.prog 103 ty103 := TyOk.of Tryz.type103 Tryz.underlying103 (by kernel_rfl)
def ty104 : Ty := { kd := .map 9 9, size := 1, bytes := 8, zero := .nilm }
theorem tyok104 : TyOk Tryz.prog 104 ty104 := TyOk.of Tryz.type104 Tryz.underlying104 (by kernel_rfl)
def ty105 : Ty := { kd := .map 34 25, size := 1, bytes := 8, zero := .nilm }
theorem tyok105 : TyOk Tryz.prog 105 ty105 := TyOk.of Tryz.type105 Tryz.underlying105 (by kernel_rfl)
def ty106 : Ty := { kd := .strct [(0, 103), (1, 104), (2, 25), (3, 105), (4, 105)], size := 5, bytes := 40, zero := .agg [.nilm, .nilm, .nilp, .nilm, .nilm] }
theorem tyok106 : TyOk Tryz.prog 106 ty106 := TyOk.of Tryz.type106 Tryz.underlying106 (by kernel_rfl)
def ty107 : Ty := { kd := .strct [(0, 103), (1, 104), (2, 25), (3, 105), (4, 105)], size := 5, bytes := 40, zero := .agg [.nilm, .nilm, .nilp, .nilm, .nilm] }
theorem tyok107 : TyOk Tryz.prog 107 ty107 := TyOk.of Tryz.type107 Tryz.underlying107 (by kernel_rfl)
def ty108 : Ty := { kd := .func, size := 1, bytes := 8, zero := .nilf }
theorem tyok108 : TyOk Tryz.prog 108 ty108 := TyOk.of Tryz.type108 Tryz.underlying108 (by kernel_rfl)
def ty109 : Ty := { kd := .func, size := 1, bytes := 8, zero := .nilf }
theorem tyok109 : TyOk Tryz.prog 109 ty109 := TyOk.of Tryz.type109 Tryz.underlying109 (by kernel_rfl)
def ty110 : Ty := { kd := .func, size := 1, bytes := 8, zero := .nilf }
theorem tyok110 : TyOk Tryz.prog 110 ty110 := TyOk.of Tryz.type110 Tryz.underlying110 (by kernel_rfl)
def ty111 : Ty := { kd := .map 9 44, size := 1, bytes := 8, zero := .nilm }
theorem tyok111 : TyOk Tryz.prog 111 ty111 := TyOk.of Tryz.type111 Tryz.underlying111 (by kernel_rfl)
def ty112 : Ty := { kd := .func, size := 1, bytes := 8, zero := .nilf }
theorem tyok112 : TyOk Tryz.prog 112 ty112 := TyOk.of Tryz.type112 Tryz.underlying112 (by kernel_rfl)
def ty113 : Ty := { kd := .func, size := 1, bytes := 8, zero := .nilf }
theorem tyok113 : TyOk Tryz.prog 113 ty113 := TyOk.of Tryz.type113 Tryz.underlying113 (by kernel_rfl)
def ty114 : Ty := { kd := .func, size := 1, bytes := 8, zero := .nilf }
theorem tyok114 : TyOk Tryz.prog 114 ty114 := TyOk.of Tryz.type114 Tryz.underlying114 (by kernel_rfl)
def ty115 : Ty := { kd := .func, size := 1, bytes := 8, zero := .nilf }
theorem tyok115 : TyOk Tryz.prog 115 ty115 := TyOk.of Tryz.type115 Tryz.underlying115 (by kernel_rfl)
def ty116 : Ty := { kd := .map 34 3, size := 1, bytes := 8, zero := .nilm }
theorem tyok116 : TyOk Tryz.prog 116 ty116 := TyOk.of Tryz.type116 Tryz.underlying116 (by kernel_rfl)
def ty117 : Ty := { kd := .func, size := 1, bytes := 8, zero := .nilf }
theorem tyok117 : TyOk Tryz.prog 117 ty117 := TyOk.of Tryz.type117 Tryz.underlying117 (by kernel_rfl)
def ty119 : Ty := { kd := .func, size := 1, bytes := 8, zero := .nilf }
theorem tyok119 : TyOk Tryz.prog 119 ty119 := TyOk.of Tryz.type119 Tryz.underlying119 (by kernel_rfl)
def ty120 : Ty := { kd := .func, size := 1, bytes := 8, zero := .nilf }
theorem tyok120 : TyOk Tryz.prog 120 ty120 := TyOk.of Tryz.type120 Tryz.underlying120 (by kernel_rfl)
def ty121 : Ty := { kd := .func, size := 1, bytes := 8, zero := .nilf }
theorem tyok121 : TyOk Tryz.prog 121 ty121 := TyOk.of Tryz.type121 Tryz.underlying121 (by kernel_rfl)
def ty122 : Ty := { kd := .func, size := 1, bytes := 8, zero := .nilf }
theorem tyok122 : TyOk Tryz.prog 122 ty122 := TyOk.of Tryz.type122 Tryz.underlying122 (by kernel_rfl)
def ty123 : Ty := { kd := .func, size := 1, bytes := 8, zero := .nilf }
theorem tyok123 : TyOk Tryz.prog 123 ty123 := TyOk.of Tryz.type123 Tryz.underlying123 (by kernel_rfl)
def ty124 : Ty := { kd := .func, size := 1, bytes := 8, zero := .nilf }
theorem tyok124 : TyOk Tryz.prog 124 ty124 := TyOk.of Tryz.type124 Tryz.underlying124 (by kernel_rfl)
def ty125 : Ty := { kd := .func, size := 1, bytes := 8, zero := .nilf }
theorem tyok125 : TyOk Tryz.prog 125 ty125 := TyOk.of Tryz.type125 Tryz.underlying125 (by kernel_rfl)
def ty126 : Ty := { kd := .func, size := 1, bytes := 8, zero := .nilf }
theorem tyok126 : TyOk Tryz.prog 126 ty126 := TyOk.of Tryz.type126 Tryz.underlying126 (by kernel_rfl)
def ty127 : Ty := { kd := .func, size := 1, bytes := 8, zero := .nilf }
theorem tyok127 : TyOk Tryz.prog 127 ty127 := TyOk.of Tryz.type127 Tryz.underlying127 (by kernel_rfl)
def ty128 : Ty := { kd := .func, size := 1, bytes := 8, zero := .nilf }
theorem tyok128 : TyOk Tryz.prog 128 ty128 := TyOk.of Tryz.type128 Tryz.underlying128 (by kernel_rfl)
def ty129 : Ty := { kd := .func, size := 1, bytes := 8, zero := .nilf }
theorem tyok129 : TyOk Tryz.prog 129 ty129 := TyOk.of Tryz.type129 Tryz.underlying129 (by kernel_rfl)
def ty130 : Ty := { kd := .func, size := 1, bytes := 8, zero := .nilf }
theorem tyok130 : TyOk Tryz.prog 130 ty130 := TyOk.of Tryz.type130 Tryz.underlying130 (by kernel_rfl)
def ty131 : Ty := { kd := .func, size := 1, bytes := 8, zero := .nilf }
theorem tyok131 : TyOk Tryz.prog 131 ty131 := TyOk.of Tryz.type131 Tryz.underlying131 (by kernel_rfl)
def ty132 : Ty := { kd := .func, size := 1, bytes := 8, zero := .nilf }
theorem tyok132 : TyOk Tryz.prog 132 ty132 := TyOk.of Tryz.type132 Tryz.underlying132 (by kernel_rfl)
def ty133 : Ty := { kd := .func, size := 1, bytes := 8, zero := .nilf }
theorem tyok133 : TyOk Tryz.prog 133 ty133 := TyOk.of Tryz.type133 Tryz.underlying133 (by kernel_rfl)
def ty134 : Ty := { kd := .int .u64, size := 1, bytes := 8, zero := .int .u64 0 }
theorem tyok134 : TyOk Tryz.prog 134 ty134 := TyOk.of Tryz.type134 Tryz.underlying134 (by kernel_rfl)
def ty135 : Ty := { kd := .strct [(0, 105), (1, 34), (3, 34)], size := 5, bytes := 56, zero := .agg [.nilm, .bool false, .str [], .bool false, .str []] }
theorem tyok135 : TyOk Tryz.prog 135 ty135 := TyOk.of Tryz.type135 Tryz.underlying135 (by kernel_rfl)
def ty136 : Ty := { kd := .sl 135, size := 1, bytes := 24, zero := .nils }
theorem tyok136 : TyOk Tryz.prog 136 ty136 := TyOk.of Tryz.type136 Tryz.underlying136 (by kernel_rfl)
def ty137 : Ty := { kd := .sl 140, size := 1, bytes := 24, zero := .nils }
theorem tyok137 : TyOk Tryz.prog 137 ty137 := TyOk.of Tryz.type137 Tryz.underlying137 (by kernel_rfl)
def ty138 : Ty := { kd := .func, size := 1, bytes := 8, zero := .nilf }
theorem tyok138 : TyOk Tryz.prog 138 ty138 := TyOk.of Tryz.type138 Tryz.underlying138 (by kernel_rfl)
def ty139 : Ty := { kd := .strct [(0, 4), (1, 9)], size := 2, bytes := 24, zero := .agg [.bool false, .str []] }
theorem tyok139 : TyOk Tryz.prog 139 ty139 := TyOk.of Tryz.type139 Tryz.underlying139 (by kernel_rfl)
def ty140 : Ty := { kd := .strct [(0, 4), (1, 9)], size := 2, bytes := 24, zero := .agg [.bool false, .str []] }
theorem tyok140 : TyOk Tryz.prog 140 ty140 := TyOk.of Tryz.type140 Tryz.underlying140 (by kernel_rfl)
def ty141 : Ty := { kd := .func, size := 1, bytes := 8, zero := .nilf }
theorem tyok141 : TyOk Tryz.prog 141 ty141 := TyOk.of Tryz.type141 Tryz.underlying141 (by kernel_rfl)
def ty142 : Ty := { kd := .ptr 177, size := 1, bytes := 8, zero := .nilp }
theorem tyok142 : TyOk Tryz.prog 142 ty142 := TyOk.of Tryz.type142 Tryz.underlying142 (by kernel_rfl)
def ty143 : Ty := { kd := .func, size := 1, bytes := 8, zero := .nilf }
theorem tyok143 : TyOk Tryz.prog 143 ty143 := TyOk.of Tryz.type143 Tryz.underlying143 (by kernel_rfl)
def ty144 : Ty := { kd := .strct [(0, 9), (1, 9)], size := 2, bytes := 32, zero := .agg [.str [], .str []] }
theorem tyok144 : TyOk Tryz.prog 144 ty144 := TyOk.of Tryz.type144 Tryz.underlying144 (by kernel_rfl)
def ty145 : Ty := { kd := .strct [(0, 9), (1, 9)], size := 2, bytes := 32, zero := .agg [.str [], .str []] }
theorem tyok145 : TyOk Tryz.prog 145 ty145 := TyOk.of Tryz.type145 Tryz.underlying145 (by kernel_rfl)
def ty146 : Ty := { kd := .func, size := 1, bytes := 8, zero := .nilf }
theorem tyok146 : TyOk Tryz.prog 146 ty146 := TyOk.of Tryz.type146 Tryz.underlying146 (by kernel_rfl)
def ty147 : Ty := { kd := .sl 3, size := 1, bytes := 24, zero := .nils }
theorem tyok147 : TyOk Tryz.prog 147 ty147 := TyOk.of Tryz.type147 Tryz.underlying147 (by kernel_rfl)
def ty148 : Ty := { kd := .func, size := 1, bytes := 8, zero := .nilf }
theorem tyok148 : TyOk Tryz.prog 148 ty148 := TyOk.of Tryz.type148 Tryz.underlying148 (by kernel_rfl)
def ty149 : Ty := { kd := .func, size := 1, bytes := 8, zero := .nilf }
theorem tyok149 : TyOk Tryz.prog 149 ty149 := TyOk.of Tryz.type149 Tryz.underlying149 (by kernel_rfl)
def ty150 : Ty := { kd := .func, size := 1, bytes := 8, zero := .nilf }
theorem tyok150 : TyOk Tryz.prog 150 ty150 := TyOk.of Tryz.type150 Tryz.underlying150 (by kernel_rfl)
def ty151 : Ty := { kd := .func, size := 1, bytes := 8, zero := .nilf }
theorem tyok151 : TyOk Tryz.prog 151 ty151 := TyOk.of Tryz.type151 Tryz.underlying151 (by kernel_rfl)
def ty152 : Ty := { kd := .func, size := 1, bytes := 8, zero := .nilf }
theorem tyok152 : TyOk Tryz.prog 152 ty152 := TyOk.of Tryz.type152 Tryz.underlying152 (by kernel_rfl)
def ty153 : Ty := { kd := .func, size := 1, bytes := 8, zero := .nilf }
theorem tyok153 : TyOk Tryz.prog 153 ty153 := TyOk.of Tryz.type153 Tryz.underlying153 (by kernel_rfl)
def ty154 : Ty := { kd := .func, size := 1, bytes := 8, zero := .nilf }
theorem tyok154 : TyOk Tryz.prog 154 ty154 := TyOk.of Tryz.type154 Tryz.underlying154 (by kernel_rfl)
def ty155 : Ty := { kd := .func, size := 1, bytes := 8, zero := .nilf }
theorem tyok155 : TyOk Tryz.prog 155 ty155 := TyOk.of Tryz.type155 Tryz.underlying155 (by kernel_rfl)
def ty156 : Ty := { kd := .func, size := 1, bytes := 8, zero := .nilf }
theorem tyok156 : TyOk Tryz.prog 156 ty156 := TyOk.of Tryz.type156 Tryz.underlying156 (by kernel_rfl)
def ty157 : Ty := { kd := .func, size := 1, bytes := 8, zero := .nilf }
theorem tyok157 : TyOk Tryz.prog 157 ty157 := TyOk.of Tryz.type157 Tryz.underlying157 (by kernel_rfl)
def ty158 : Ty := { kd := .func, size := 1, bytes := 8, zero := .nilf }
theorem tyok158 : TyOk Tryz.prog 158 ty158 := TyOk.of Tryz.type158 Tryz.underlying158 (by kernel_rfl)
def ty159 : Ty := { kd := .func, size := 1, bytes := 8, zero := .nilf }
theorem tyok159 : TyOk Tryz.prog 159 ty159 := TyOk.of Tryz.type159 Tryz.underlying159 (by kernel_rfl)
def ty160 : Ty := { kd := .func, size := 1, bytes := 8, zero := .nilf }
theorem tyok160 : TyOk Tryz.prog 160 ty160 := TyOk.of Tryz.type160 Tryz.underlying160 (by kernel_rfl)
def ty161 : Ty := { kd := .func, size := 1, bytes := 8, zero := .nilf }
theorem tyok161 : TyOk Tryz.prog 161 ty161 := TyOk.of Tryz.type161 Tryz.underlying161 (by kernel_rfl)
def ty162 : Ty := { kd := .int .i64, size := 1, bytes := 8, zero := .int .i64 0 }
theorem tyok162 : TyOk Tryz.prog 162 ty162 := TyOk.of Tryz.type162 Tryz.underlying162 (by kernel_rfl)
def ty164 : Ty := { kd := .func, size := 1, bytes := 8, zero := .nilf }
theorem tyok164 : TyOk Tryz.prog 164 ty164 := TyOk.of Tryz.type164 Tryz.underlying164 (by kernel_rfl)
def ty165 : Ty := { kd := .func, size := 1, bytes := 8, zero := .nilf }
theorem tyok165 : TyOk Tryz.prog 165 ty165 := TyOk.of Tryz.type165 Tryz.underlying165 (by kernel_rfl)
def ty166 : Ty := { kd := .func, size := 1, bytes := 8, zero := .nilf }
theorem tyok166 : TyOk Tryz.prog 166 ty166 := TyOk.of Tryz.type166 Tryz.underlying166 (by kernel_rfl)
def ty167 : Ty := { kd := .func, size := 1, bytes := 8, zero := .nilf }
theorem tyok167 : TyOk Tryz.prog 167 ty167 := TyOk.of Tryz.type167 Tryz.underlying167 (by kernel_rfl)
def ty168 : Ty := { kd := .func, size := 1, bytes := 8, zero := .nilf }
theorem tyok168 : TyOk Tryz.prog 168 ty168 := TyOk.of Tryz.type168 Tryz.underlying168 (by kernel_rfl)
def ty169 : Ty := { kd := .func, size := 1, bytes := 8, zero := .nilf }
theorem tyok169 : TyOk Tryz.prog 169 ty169 := TyOk.of Tryz.type169 Tryz.underlying169 (by kernel_rfl)
def ty170 : Ty := { kd := .int .u32, size := 1, bytes := 4, zero := .int .u32 0 }
theorem tyok170 : TyOk Tryz.prog 170 ty170 := TyOk.of Tryz.type170 Tryz.underlying170 (by kernel_rfl)
def ty171 : Ty := { kd := .func, size := 1, bytes := 8, zero := .nilf }
theorem tyok171 : TyOk Tryz.prog 171 ty171 := TyOk.of Tryz.type171 Tryz.underlying171 (by kernel_rfl)
def ty172 : Ty := { kd := .int .u64, size := 1, bytes := 8, zero := .int .u64 0 }
theorem tyok172 : TyOk Tryz.prog 172 ty172 := TyOk.of Tryz.type172 Tryz.underlying172 (by kernel_rfl)
def ty173 : Ty := { kd := .map 9 140, size := 1, bytes := 8, zero := .nilm }
theorem tyok173 : TyOk Tryz.prog 173 ty173 := TyOk.of Tryz.type173 Tryz.underlying173 (by kernel_rfl)
def ty174 : Ty := { kd := .func, size := 1, bytes := 8, zero := .nilf }
theorem tyok174 : TyOk Tryz.prog 174 ty174 := TyOk.of Tryz.type174 Tryz.underlying174 (by kernel_rfl)
def ty175 : Ty := { kd := .sl 145, size := 1, bytes := 24, zero := .nils }
theorem tyok175 : TyOk Tryz.prog 175 ty175 := TyOk.of Tryz.type175 Tryz.underlying175 (by kernel_rfl)
def ty176 : Ty := { kd := .strct [(0, 104)], size := 1, bytes := 8, zero := .agg [.nilm] }
theorem tyok176 : TyOk Tryz.prog 176 ty176 := TyOk.of Tryz.type176 Tryz.underlying176 (by kernel_rfl)
def ty177 : Ty := { kd := .strct [(0, 104)], size := 1, bytes := 8, zero := .agg [.nilm] }
theorem tyok177 : TyOk Tryz.prog 177 ty177 := TyOk.of Tryz.type177 Tryz.underlying177 (by kernel_rfl)
def ty178 : Ty := { kd := .func, size := 1, bytes := 8, zero := .nilf }
theorem tyok178 : TyOk Tryz.prog 178 ty178 := TyOk.of Tryz.type178 Tryz.underlying178 (by kernel_rfl)
def ty179 : Ty := { kd := .ptr 181, size := 1, bytes := 8, zero := .nilp }
theorem tyok179 : TyOk Tryz.prog 179 ty179 := TyOk.of Tryz.type179 Tryz.underlying179 (by kernel_rfl)
def ty180 : Ty := { kd := .strct [(0, 43), (1, 142), (2, 173)], size := 3, bytes := 40, zero := .agg [.nils, .nilp, .nilm] }
theorem tyok180 : TyOk Tryz.prog 180 ty180 := TyOk.of Tryz.type180 Tryz.underlying180 (by kernel_rfl)
def ty181 : Ty := { kd := .strct [(0, 43), (1, 142), (2, 173)], size := 3, bytes := 40, zero := .agg [.nils, .nilp, .nilm] }
theorem tyok181 : TyOk Tryz.prog 181 ty181 := TyOk.of Tryz.type181 Tryz.underlying181 (by kernel_rfl)
def ty182 : Ty := { kd := .func, size := 1, bytes := 8, zero := .nilf }
theorem tyok182 : TyOk Tryz.prog 182 ty182 := TyOk.of Tryz.type182 Tryz.underlying182 (by kernel_rfl)
def ty183 : Ty := { kd := .func, size := 1, bytes := 8, zero := .nilf }
theorem tyok183 : TyOk Tryz.prog 183 ty183 := TyOk.of Tryz.type183 Tryz.underlying183 (by kernel_rfl)
def ty184 : Ty := { kd := .sl 4, size := 1, bytes := 24, zero := .nils }
theorem tyok184 : TyOk Tryz.prog 184 ty184 := TyOk.of Tryz.type184 Tryz.underlying184 (by kernel_rfl)
def ty185 : Ty := { kd := .func, size := 1, bytes := 8, zero := .nilf }
theorem tyok185 : TyOk Tryz.prog 185 ty185 := TyOk.of Tryz.type185 Tryz.underlying185 (by kernel_rfl)
def ty186 : Ty := { kd := .func, size := 1, bytes := 8, zero := .nilf }
theorem tyok186 : TyOk Tryz.prog 186 ty186 := TyOk.of Tryz.type186 Tryz.underlying186 (by kernel_rfl)
def ty188 : Ty := { kd := .func, size := 1, bytes := 8, zero := .nilf }
theorem tyok188 : TyOk Tryz.prog 188 ty188 := TyOk.of Tryz.type188 Tryz.underlying188 (by kernel_rfl)
def ty189 : Ty := { kd := .func, size := 1, bytes := 8, zero := .nilf }
theorem tyok189 : TyOk Tryz.prog 189 ty189 := TyOk.of Tryz.type189 Tryz.underlying189 (by kernel_rfl)
def ty190 : Ty := { kd := .func, size := 1, bytes := 8, zero := .nilf }
theorem tyok190 : TyOk Tryz.prog 190 ty190 := TyOk.of Tryz.type190 Tryz.underlying190 (by kernel_rfl)
def ty191 : Ty := { kd := .func, size := 1, bytes := 8, zero := .nilf }
theorem tyok191 : TyOk Tryz.prog 191 ty191 := TyOk.of Tryz.type191 Tryz.underlying191 (by kernel_rfl)
def ty192 : Ty := { kd := .func, size := 1, bytes := 8, zero := .nilf }
theorem tyok192 : TyOk Tryz.prog 192 ty192 := TyOk.of Tryz.type192 Tryz.underlying192 (by kernel_rfl)
def ty193 : Ty := { kd := .func, size := 1, bytes := 8, zero := .nilf }
theorem tyok193 : TyOk Tryz.prog 193 ty193 := TyOk.of Tryz.type193 Tryz.underlying193 (by kernel_rfl)
def ty194 : Ty := { kd := .func, size := 1, bytes := 8, zero := .nilf }
theorem tyok194 : TyOk Tryz.prog 194 ty194 := TyOk.of Tryz.type194 Tryz.underlying194 (by kernel_rfl)
def ty195 : Ty := { kd := .func, size := 1, bytes := 8, zero := .nilf }
theorem tyok195 : TyOk Tryz.prog 195 ty195 := TyOk.of Tryz.type195 Tryz.underlying195 (by kernel_rfl)
def ty196 : Ty := { kd := .map 9 3, size := 1, bytes := 8, zero := .nilm }
theorem tyok196 : TyOk Tryz.prog 196 ty196 := TyOk.of Tryz.type196 Tryz.underlying196 (by kernel_rfl)
def ty197 : Ty := { kd := .int .u64, size := 1, bytes := 8, zero := .int .u64 0 }
theorem tyok197 : TyOk Tryz.prog 197 ty197 := TyOk.of Tryz.type197 Tryz.underlying197 (by kernel_rfl)
def ty198 : Ty := { kd := .func, size := 1, bytes := 8, zero := .nilf }
theorem tyok198 : TyOk Tryz.prog 198 ty198 := TyOk.of Tryz.type198 Tryz.underlying198 (by kernel_rfl)
def ty199 : Ty := { kd := .func, size := 1, bytes := 8, zero := .nilf }
theorem tyok199 : TyOk Tryz.prog 199 ty199 := TyOk.of Tryz.type199 Tryz.underlying199 (by kernel_rfl)
def ty200 : Ty := { kd := .func, size := 1, bytes := 8, zero := .nilf }
theorem tyok200 : TyOk Tryz.prog 200 ty200 := TyOk.of Tryz.type200 Tryz.underlying200 (by kernel_rfl)
def ty201 : Ty := { kd := .ptr 3, size := 1, bytes := 8, zero := .nilp }
theorem tyok201 : TyOk Tryz.prog 201 ty201 := TyOk.of Tryz.type201 Tryz.underlying201 (by kernel_rfl)
def ty202 : Ty := { kd := .func, size := 1, bytes := 8, zero := .nilf }
theorem tyok202 : TyOk Tryz.prog 202 ty202 := TyOk.of Tryz.type202 Tryz.underlying202 (by kernel_rfl)
def ty203 : Ty := { kd := .func, size := 1, bytes := 8, zero := .nilf }
theorem tyok203 : TyOk Tryz.prog 203 ty203 := TyOk.of Tryz.type203 Tryz.underlying203 (by kernel_rfl)
def ty205 : Ty := { kd := .sl 213, size := 1, bytes := 24, zero := .nils }
theorem tyok205 : TyOk Tryz.prog 205 ty205 := TyOk.of Tryz.type205 Tryz.underlying205 (by kernel_rfl)
def ty206 : Ty := { kd := .strct [(0, 88), (1, 3)], size := 2, bytes := 16, zero := .agg [.int .i64 0, .int .i64 0] }
theorem tyok206 : TyOk Tryz.prog 206 ty206 := TyOk.of Tryz.type206 Tryz.underlying206 (by kernel_rfl)
def ty207 : Ty := { kd := .strct [(0, 88), (1, 3)], size := 2, bytes := 16, zero := .agg [.int .i64 0, .int .i64 0] }
theorem tyok207 : TyOk Tryz.prog 207 ty207 := TyOk.of Tryz.type207 Tryz.underlying207 (by kernel_rfl)
def ty209 : Ty := { kd := .func, size := 1, bytes := 8, zero := .nilf }
theorem tyok209 : TyOk Tryz.prog 209 ty209 := TyOk.of Tryz.type209 Tryz.underlying209 (by kernel_rfl)
def ty211 : Ty := { kd := .func, size := 1, bytes := 8, zero := .nilf }
theorem tyok211 : TyOk Tryz.prog 211 ty211 := TyOk.of Tryz.type211 Tryz.underlying211 (by kernel_rfl)
def ty212 : Ty := { kd := .strct [(0, 3), (1, 3), (2, 9)], size := 3, bytes := 32, zero := .agg [.int .i64 0, .int .i64 0, .str []] }
theorem tyok212 : TyOk Tryz.prog 212 ty212 := TyOk.of Tryz.type212 Tryz.underlying212 (by kernel_rfl)
def ty213 : Ty := { kd := .strct [(0, 3), (1, 3), (2, 9)], size := 3, bytes := 32, zero := .agg [.int .i64 0, .int .i64 0, .str []] }
theorem tyok213 : TyOk Tryz.prog 213 ty213 := TyOk.of Tryz.type213 Tryz.underlying213 (by kernel_rfl)
def ty214 : Ty := { kd := .func, size := 1, bytes := 8, zero := .nilf }
theorem tyok214 : TyOk Tryz.prog 214 ty214 := TyOk.of Tryz.type214 Tryz.underlying214 (by kernel_rfl)
def ty215 : Ty := { kd := .func, size := 1, bytes := 8, zero := .nilf }
theorem tyok215 : TyOk Tryz.prog 215 ty215 := TyOk.of Tryz.type215 Tryz.underlying215 (by kernel_rfl)
def ty216 : Ty := { kd := .func, size := 1, bytes := 8, zero := .nilf }
theorem tyok216 : TyOk Tryz.prog 216 ty216 := TyOk.of Tryz.type216 Tryz.underlying216 (by kernel_rfl)
def ty217 : Ty := { kd := .func, size := 1, bytes := 8, zero := .nilf }
theorem tyok217 : TyOk Tryz.prog 217 ty217 := TyOk.of Tryz.type217 Tryz.underlying217 (by kernel_rfl)
def ty218 : Ty := { kd := .func, size := 1, bytes := 8, zero := .nilf }
theorem tyok218 : TyOk Tryz.prog 218 ty218 := TyOk.of Tryz.type218 Tryz.underlying218 (by kernel_rfl)
def ty219 : Ty := { kd := .func, size := 1, bytes := 8, zero := .nilf }
theorem tyok219 : TyOk Tryz.prog 219 ty219 := TyOk.of Tryz.type219 Tryz.underlying219 (by kernel_rfl)
def ty220 : Ty := { kd := .func, size := 1, bytes := 8, zero := .nilf }
theorem tyok220 : TyOk Tryz.prog 220 ty220 := TyOk.of Tryz.type220 Tryz.underlying220 (by kernel_rfl)
def ty221 : Ty := { kd := .func, size := 1, bytes := 8, zero := .nilf }
theorem tyok221 : TyOk Tryz.prog 221 ty221 := TyOk.of Tryz.type221 Tryz.underlying221 (by kernel_rfl)
def ty222 : Ty := { kd := .func, size := 1, bytes := 8, zero := .nilf }
theorem tyok222 : TyOk Tryz.prog 222 ty222 := TyOk.of Tryz.type222 Tryz.underlying222 (by kernel_rfl)
def ty223 : Ty := { kd := .func, size := 1, bytes := 8, zero := .nilf }
theorem tyok223 : TyOk Tryz.prog 223 ty223 := TyOk.of Tryz.type223 Tryz.underlying223 (by kernel_rfl)
def ty224 : Ty := { kd := .ptr 197, size := 1, bytes := 8, zero := .nilp }
theorem tyok224 : TyOk Tryz.prog 224 ty224 := TyOk.of Tryz.type224 Tryz.underlying224 (by kernel_rfl)
def ty226 : Ty := { kd := .func, size := 1, bytes := 8, zero := .nilf }
theorem tyok226 : TyOk Tryz.prog 226 ty226 := TyOk.of Tryz.type226 Tryz.underlying226 (by kernel_rfl)
def ty227 : Ty := { kd := .func, size := 1, bytes := 8, zero := .nilf }
theorem tyok227 : TyOk Tryz.prog 227 ty227 := TyOk.of Tryz.type227 Tryz.underlying227 (by kernel_rfl)
def ty228 : Ty := { kd := .func, size := 1, bytes := 8, zero := .nilf }
theorem tyok228 : TyOk Tryz.prog 228 ty228 := TyOk.of Tryz.type228 Tryz.underlying228 (by kernel_rfl)
def ty229 : Ty := { kd := .func, size := 1, bytes := 8, zero := .nilf }
theorem tyok229 : TyOk Tryz.prog 229 ty229 := TyOk.of Tryz.type229 Tryz.underlying229 (by kernel_rfl)
def ty230 : Ty := { kd := .func, size := 1, bytes := 8, zero := .nilf }
theorem tyok230 : TyOk Tryz.prog 230 ty230 := TyOk.of Tryz.type230 Tryz.underlying230 (by kernel_rfl)
def ty231 : Ty := { kd := .func, size := 1, bytes := 8, zero := .nilf }
theorem tyok231 : TyOk Tryz.prog 231 ty231 := TyOk.of Tryz.type231 Tryz.underlying231 (by kernel_rfl)
def ty233 : Ty := { kd := .func, size := 1, bytes := 8, zero := .nilf }
theorem tyok233 : TyOk Tryz.prog 233 ty233 := TyOk.of Tryz.type233 Tryz.underlying233 (by kernel_rfl)
def ty234 : Ty := { kd := .ptr 236, size := 1, bytes := 8, zero := .nilp }
theorem tyok234 : TyOk Tryz.prog 234 ty234 := TyOk.of Tryz.type234 Tryz.underlying234 (by kernel_rfl)
def ty235 : Ty := { kd := .strct [(0, 205), (1, 3)], size := 2, bytes := 32, zero := .agg [.nils, .int .i64 0] }
theorem tyok235 : TyOk Tryz.prog 235 ty235 := TyOk.of Tryz.type235 Tryz.underlying235 (by kernel_rfl)
def ty236 : Ty := { kd := .strct [(0, 205), (1, 3)], size := 2, bytes := 32, zero := .agg [.nils, .int .i64 0] }
theorem tyok236 : TyOk Tryz.prog 236 ty236 := TyOk.of Tryz.type236 Tryz.underlying236 (by kernel_rfl)
def ty237 : Ty := { kd := .func, size := 1, bytes := 8, zero := .nilf }
theorem tyok237 : TyOk Tryz.prog 237 ty237 := TyOk.of Tryz.type237 Tryz.underlying237 (by kernel_rfl)
def ty238 : Ty := { kd := .func, size := 1, bytes := 8, zero := .nilf }
theorem tyok238 : TyOk Tryz.prog 238 ty238 := TyOk.of Tryz.type238 Tryz.underlying238 (by kernel_rfl)
def ty239 : Ty := { kd := .func, size := 1, bytes := 8, zero := .nilf }
theorem tyok239 : TyOk Tryz.prog 239 ty239 := TyOk.of Tryz.type239 Tryz.underlying239 (by kernel_rfl)
def ty240 : Ty := { kd := .func, size := 1, bytes := 8, zero := .nilf }
theorem tyok240 : TyOk Tryz.prog 240 ty240 := TyOk.of Tryz.type240 Tryz.underlying240 (by kernel_rfl)
def ty241 : Ty := { kd := .func, size := 1, bytes := 8, zero := .nilf }
theorem tyok241 : TyOk Tryz.prog 241 ty241 := TyOk.of Tryz.type241 Tryz.underlying241 (by kernel_rfl)
def ty242 : Ty := { kd := .func, size := 1, bytes := 8, zero := .nilf }
theorem tyok242 : TyOk Tryz.prog 242 ty242 := TyOk.of Tryz.type242 Tryz.underlying242 (by kernel_rfl)
def ty243 : Ty := { kd := .func, size := 1, bytes := 8, zero := .nilf }
theorem tyok243 : TyOk Tryz.prog 243 ty243 := TyOk.of Tryz.type243 Tryz.underlying243 (by kernel_rfl)
def ty244 : Ty := { kd := .func, size := 1, bytes := 8, zero := .nilf }
theorem tyok244 : TyOk Tryz.prog 244 ty244 := TyOk.of Tryz.type244 Tryz.underlying244 (by kernel_rfl)
def ty245 : Ty := { kd := .func, size := 1, bytes := 8, zero := .nilf }
theorem tyok245 : TyOk Tryz.prog 245 ty245 := TyOk.of Tryz.type245 Tryz.underlying245 (by kernel_rfl)
def ty246 : Ty := { kd := .func, size := 1, bytes := 8, zero := .nilf }
theorem tyok246 : TyOk Tryz.prog 246 ty246 := TyOk.of Tryz.type246 Tryz.underlying246 (by kernel_rfl)
def ty247 : Ty := { kd := .ptr 249, size := 1, bytes := 8, zero := .nilp }
theorem tyok247 : TyOk Tryz.prog 247 ty247 := TyOk.of Tryz.type247 Tryz.underlying247 (by kernel_rfl)
def ty248 : Ty := { kd := .strct [(0, 247), (1, 85)], size := 2, bytes := 32, zero := .agg [.nilp, .nils] }
theorem tyok248 : TyOk Tryz.prog 248 ty248 := TyOk.of Tryz.type248 Tryz.underlying248 (by kernel_rfl)
def ty249 : Ty := { kd := .strct [(0, 247), (1, 85)], size := 2, bytes := 32, zero := .agg [.nilp, .nils] }
theorem tyok249 : TyOk Tryz.prog 249 ty249 := TyOk.of Tryz.type249 Tryz.underlying249 (by kernel_rfl)
def ty250 : Ty := { kd := .ifc, size := 1, bytes := 16, zero := .nili }
theorem tyok250 : TyOk Tryz.prog 250 ty250 := TyOk.of Tryz.type250 Tryz.underlying250 (by kernel_rfl)
def ty251 : Ty := { kd := .ifc, size := 1, bytes := 16, zero := .nili }
theorem tyok251 : TyOk Tryz.prog 251 ty251 := TyOk.of Tryz.type251 Tryz.underlying251 (by kernel_rfl)
def ty253 : Ty := { kd := .func, size := 1, bytes := 8, zero := .nilf }
theorem tyok253 : TyOk Tryz.prog 253 ty253 := TyOk.of Tryz.type253 Tryz.underlying253 (by kernel_rfl)
def ty254 : Ty := { kd := .func, size := 1, bytes := 8, zero := .nilf }
theorem tyok254 : TyOk Tryz.prog 254 ty254 := TyOk.of Tryz.type254 Tryz.underlying254 (by kernel_rfl)
def ty255 : Ty := { kd := .func, size := 1, bytes := 8, zero := .nilf }
theorem tyok255 : TyOk Tryz.prog 255 ty255 := TyOk.of Tryz.type255 Tryz.underlying255 (by kernel_rfl)
def ty256 : Ty := { kd := .func, size := 1, bytes := 8, zero := .nilf }
theorem tyok256 : TyOk Tryz.prog 256 ty256 := TyOk.of Tryz.type256 Tryz.underlying256 (by kernel_rfl)
def ty257 : Ty := { kd := .func, size := 1, bytes := 8, zero := .nilf }
theorem tyok257 : TyOk Tryz.prog 257 ty257 := TyOk.of Tryz.type257 Tryz.underlying257 (by kernel_rfl)
def ty258 : Ty := { kd := .func, size := 1, bytes := 8, zero := .nilf }
theorem tyok258 : TyOk Tryz.prog 258 ty258 := TyOk.of Tryz.type258 Tryz.underlying258 (by kernel_rfl)
def ty259 : Ty := { kd := .func, size := 1, bytes := 8, zero := .nilf }
theorem tyok259 : TyOk Tryz.prog 259 ty259 := TyOk.of Tryz.type259 Tryz.underlying259 (by kernel_rfl)
def ty260 : Ty := { kd := .func, size := 1, bytes := 8, zero := .nilf }
theorem tyok260 : TyOk Tryz.prog 260 ty260 := TyOk.of Tryz.type260 Tryz.underlying260 (by kernel_rfl)
def ty262 : Ty := { kd := .func, size := 1, bytes := 8, zero := .nilf }
theorem tyok262 : TyOk Tryz.prog 262 ty262 := TyOk.of Tryz.type262 Tryz.underlying262 (by kernel_rfl)
def ty263 : Ty := { kd := .func, size := 1, bytes := 8, zero := .nilf }
theorem tyok263 : TyOk Tryz.prog 263 ty263 := TyOk.of Tryz.type263 Tryz.underlying263 (by kernel_rfl)
def ty264 : Ty := { kd := .func, size := 1, bytes := 8, zero := .nilf }
theorem tyok264 : TyOk Tryz.prog 264 ty264 := TyOk.of Tryz.type264 Tryz.underlying264 (by kernel_rfl)
def ty265 : Ty := { kd := .func, size := 1, bytes := 8, zero := .nilf }
theorem tyok265 : TyOk Tryz.prog 265 ty265 := TyOk.of Tryz.type265 Tryz.underlying265 (by kernel_rfl)
def ty267 : Ty := { kd := .func, size := 1, bytes := 8, zero := .nilf }
theorem tyok267 : TyOk Tryz.prog 267 ty267 := TyOk.of Tryz.type267 Tryz.underlying267 (by kernel_rfl)
def ty268 : Ty := { kd := .func, size := 1, bytes := 8, zero := .nilf }
theorem tyok268 : TyOk Tryz.prog 268 ty268 := TyOk.of Tryz.type268 Tryz.underlying268 (by kernel_rfl)
def ty269 : Ty := { kd := .func, size := 1, bytes := 8, zero := .nilf }
theorem tyok269 : TyOk Tryz.prog 269 ty269 := TyOk.of Tryz.type269 Tryz.underlying269 (by kernel_rfl)
def ty270 : Ty := { kd := .func, size := 1, bytes := 8, zero := .nilf }
theorem tyok270 : TyOk Tryz.prog 270 ty270 := TyOk.of Tryz.type270 Tryz.underlying270 (by kernel_rfl)
def ty271 : Ty := { kd := .func, size := 1, bytes := 8, zero := .nilf }
theorem tyok271 : TyOk Tryz.prog 271 ty271 := TyOk.of Tryz.type271 Tryz.underlying271 (by kernel_rfl)
def ty272 : Ty := { kd := .func, size := 1, bytes := 8, zero := .nilf }
theorem tyok272 : TyOk Tryz.prog 272 ty272 := TyOk.of Tryz.type272 Tryz.underlying272 (by kernel_rfl)
def ty273 : Ty := { kd := .func, size := 1, bytes := 8, zero := .nilf }
theorem tyok273 : TyOk Tryz.prog 273 ty273 := TyOk.of Tryz.type273 Tryz.underlying273 (by kernel_rfl)
def ty274 : Ty := { kd := .func, size := 1, bytes := 8, zero := .nilf }
theorem tyok274 : TyOk Tryz.prog 274 ty274 := TyOk.of Tryz.type274 Tryz.underlying274 (by kernel_rfl)
def ty275 : Ty := { kd := .func, size := 1, bytes := 8, zero := .nilf }
theorem tyok275 : TyOk Tryz.prog 275 ty275 := TyOk.of Tryz.type275 Tryz.underlying275 (by kernel_rfl)
def ty276 : Ty := { kd := .func, size := 1, bytes := 8, zero := .nilf }
theorem tyok276 : TyOk Tryz.prog 276 ty276 := TyOk.of Tryz.type276 Tryz.underlying276 (by kernel_rfl)
def ty278 : Ty := { kd := .func, size := 1, bytes := 8, zero := .nilf }
theorem tyok278 : TyOk Tryz.prog 278 ty278 := TyOk.of Tryz.type278 Tryz.underlying278 (by kernel_rfl)
def ty279 : Ty := { kd := .ptr 5, size := 1, bytes := 8, zero := .nilp }
theorem tyok279 : TyOk Tryz.prog 279 ty279 := TyOk.of Tryz.type279 Tryz.underlying279 (by kernel_rfl)
def ty280 : Ty := { kd := .func, size := 1, bytes := 8, zero := .nilf }
theorem tyok280 : TyOk Tryz.prog 280 ty280 := TyOk.of Tryz.type280 Tryz.underlying280 (by kernel_rfl)
def ty282 : Ty := { kd := .func, size := 1, bytes := 8, zero := .nilf }
theorem tyok282 : TyOk Tryz.prog 282 ty282 := TyOk.of Tryz.type282 Tryz.underlying282 (by kernel_rfl)
def ty283 : Ty := { kd := .func, size := 1, bytes := 8, zero := .nilf }
theorem tyok283 : TyOk Tryz.prog 283 ty283 := TyOk.of Tryz.type283 Tryz.underlying283 (by kernel_rfl)
def ty285 : Ty := { kd := .func, size := 1, bytes := 8, zero := .nilf }
theorem tyok285 : TyOk Tryz.prog 285 ty285 := TyOk.of Tryz.type285 Tryz.underlying285 (by kernel_rfl)
def ty286 : Ty := { kd := .func, size := 1, bytes := 8, zero := .nilf }
theorem tyok286 : TyOk Tryz.prog 286 ty286 := TyOk.of Tryz.type286 Tryz.underlying286 (by kernel_rfl)
def ty287 : Ty := { kd := .func, size := 1, bytes := 8, zero := .nilf }
theorem tyok287 : TyOk Tryz.prog 287 ty287 := TyOk.of Tryz.type287 Tryz.underlying287 (by kernel_rfl)
def ty288 : Ty := { kd := .func, size := 1, bytes := 8, zero := .nilf }
theorem tyok288 : TyOk Tryz.prog 288 ty288 := TyOk.of Tryz.type288 Tryz.underlying288 (by kernel_rfl)
def ty289 : Ty := { kd := .func, size := 1, bytes := 8, zero := .nilf }
theorem tyok289 : TyOk Tryz.prog 289 ty289 := TyOk.of Tryz.type289 Tryz.underlying289 (by kernel_rfl)
def ty290 : Ty := { kd := .other, size := 1, bytes := 8, zero := .nilp }
theorem tyok290 : TyOk Tryz.prog 290 ty290 := TyOk.of Tryz.type290 Tryz.underlying290 (by kernel_rfl)
def ty291 : Ty := { kd := .func, size := 1, bytes := 8, zero := .nilf }
theorem tyok291 : TyOk Tryz.prog 291 ty291 := TyOk.of Tryz.type291 Tryz.underlying291 (by kernel_rfl)
def ty292 : Ty := { kd := .func, size := 1, bytes := 8, zero := .nilf }
theorem tyok292 : TyOk Tryz.prog 292 ty292 := TyOk.of Tryz.type292 Tryz.underlying292 (by kernel_rfl)
def ty293 : Ty := { kd := .func, size := 1, bytes := 8, zero := .nilf }
theorem tyok293 : TyOk Tryz.prog 293 ty293 := TyOk.of Tryz.type293 Tryz.underlying293 (by kernel_rfl)
def ty294 : Ty := { kd := .func, size := 1, bytes := 8, zero := .nilf }
theorem tyok294 : TyOk Tryz.prog 294 ty294 := TyOk.of Tryz.type294 Tryz.underlying294 (by kernel_rfl)
def ty295 : Ty := { kd := .func, size := 1, bytes := 8, zero := .nilf }
theorem tyok295 : TyOk Tryz.prog 295 ty295 := TyOk.of Tryz.type295 Tryz.underlying295 (by kernel_rfl)
def ty297 : Ty := { kd := .strct [(0, 5), (1, 5)], size := 2, bytes := 2, zero := .agg [.int .u8 0, .int .u8 0] }
theorem tyok297 : TyOk Tryz.prog 297 ty297 := TyOk.of Tryz.type297 Tryz.underlying297 (by kernel_rfl)
def ty298 : Ty := { kd := .strct [(0, 5), (1, 5)], size := 2, bytes := 2, zero := .agg [.int .u8 0, .int .u8 0] }
theorem tyok298 : TyOk Tryz.prog 298 ty298 := TyOk.of Tryz.type298 Tryz.underlying298 (by kernel_rfl)
def ty299 : Ty := { kd := .arr 16 298, size := 32, bytes := 32, zero := .agg [.int .u8 0, .int .u8 0, .int .u8 0, .int .u8 0, .int .u8 0, .int .u8 0, .int .u8 0, .int .u8 0, .int .u8 0, .int .u8 0, .int .u8 0, .int .u8 0, .int .u8 0, .int .u8 0, .int .u8 0, .int .u8 0, .int .u8 0, .int .u8 0, .int .u8 0, .int .u8 0, .int .u8 0, .int .u8 0, .int .u8 0, .int .u8 0, .int .u8 0, .int .u8 0, .int .u8 0, .int .u8 0, .int .u8 0, .int .u8 0, .int .u8 0, .int .u8 0] }
theorem tyok299 : TyOk Tryz.prog 299 ty299 := TyOk.of Tryz.type299 Tryz.underlying299 (by kernel_rfl)
def ty301 : Ty := { kd := .func, size := 1, bytes := 8, zero := .nilf }
theorem tyok301 : TyOk Tryz.prog 301 ty301 := TyOk.of Tryz.type301 Tryz.underlying301 (by kernel_rfl)
def ty302 : Ty := { kd := .arr 24 5, size := 24, bytes := 24, zero := .agg [.int .u8 0, .int .u8 0, .int .u8 0, .int .u8 0, .int .u8 0, .int .u8 0, .int .u8 0, .int .u8 0, .int .u8 0, .int .u8 0, .int .u8 0, .int .u8 0, .int .u8 0, .int .u8 0, .int .u8 0, .int .u8 0, .int .u8 0, .int .u8 0, .int .u8 0, .int .u8 0, .int .u8 0, .int .u8 0, .int .u8 0, .int .u8 0] }
theorem tyok302 : TyOk Tryz.prog 302 ty302 := TyOk.of Tryz.type302 Tryz.underlying302 (by kernel_rfl)
def ty303 : Ty := { kd := .func, size := 1, bytes := 8, zero := .nilf }
theorem tyok303 : TyOk Tryz.prog 303 ty303 := TyOk.of Tryz.type303 Tryz.underlying303 (by kernel_rfl)
def ty305 : Ty := { kd := .func, size := 1, bytes := 8, zero := .nilf }
theorem tyok305 : TyOk Tryz.prog 305 ty305 := TyOk.of Tryz.type305 Tryz.underlying305 (by kernel_rfl)
def ty306 : Ty := { kd := .int .i64, size := 1, bytes := 8, zero := .int .i64 0 }
theorem tyok306 : TyOk Tryz.prog 306 ty306 := TyOk.of Tryz.type306 Tryz.underlying306 (by kernel_rfl)
def ty308 : Ty := { kd := .func, size := 1, bytes := 8, zero := .nilf }
theorem tyok308 : TyOk Tryz.prog 308 ty308 := TyOk.of Tryz.type308 Tryz.underlying308 (by kernel_rfl)
def ty309 : Ty := { kd := .ptr 318, size := 1, bytes := 8, zero := .nilp }
theorem tyok309 : TyOk Tryz.prog 309 ty309 := TyOk.of Tryz.type309 Tryz.underlying309 (by kernel_rfl)
def ty310 : Ty := { kd := .func, size := 1, bytes := 8, zero := .nilf }
theorem tyok310 : TyOk Tryz.prog 310 ty310 := TyOk.of Tryz.type310 Tryz.underlying310 (by kernel_rfl)
def ty311 : Ty := { kd := .func, size := 1, bytes := 8, zero := .nilf }
theorem tyok311 : TyOk Tryz.prog 311 ty311 := TyOk.of Tryz.type311 Tryz.underlying311 (by kernel_rfl)
def ty312 : Ty := { kd := .arr 20 172, size := 20, bytes := 160, zero := .agg [.int .u64 0, .int .u64 0, .int .u64 0, .int .u64 0, .int .u64 0, .int .u64 0, .int .u64 0, .int .u64 0, .int .u64 0, .int .u64 0, .int .u64 0, .int .u64 0, .int .u64 0, .int .u64 0, .int .u64 0, .int .u64 0, .int .u64 0, .int .u64 0, .int .u64 0, .int .u64 0] }
theorem tyok312 : TyOk Tryz.prog 312 ty312 := TyOk.of Tryz.type312 Tryz.underlying312 (by kernel_rfl)
def ty314 : Ty := { kd := .func, size := 1, bytes := 8, zero := .nilf }
theorem tyok314 : TyOk Tryz.prog 314 ty314 := TyOk.of Tryz.type314 Tryz.underlying314 (by kernel_rfl)
def ty316 : Ty := { kd := .func, size := 1, bytes := 8, zero := .nilf }
theorem tyok316 : TyOk Tryz.prog 316 ty316 := TyOk.of Tryz.type316 Tryz.underlying316 (by kernel_rfl)
def ty317 : Ty := { kd := .strct [(0, 9), (1, 9), (2, 251)], size := 3, bytes := 48, zero := .agg [.str [], .str [], .nili] }
theorem tyok317 : TyOk Tryz.prog 317 ty317 := TyOk.of Tryz.type317 Tryz.underlying317 (by kernel_rfl)
def ty318 : Ty := { kd := .strct [(0, 9), (1, 9), (2, 251)], size := 3, bytes := 48, zero := .agg [.str [], .str [], .nili] }
theorem tyok318 : TyOk Tryz.prog 318 ty318 := TyOk.of Tryz.type318 Tryz.underlying318 (by kernel_rfl)
def ty319 : Ty := { kd := .func, size := 1, bytes := 8, zero := .nilf }
theorem tyok319 : TyOk Tryz.prog 319 ty319 := TyOk.of Tryz.type319 Tryz.underlying319 (by kernel_rfl)
def ty320 : Ty := { kd := .func, size := 1, bytes := 8, zero := .nilf }
theorem tyok320 : TyOk Tryz.prog 320 ty320 := TyOk.of Tryz.type320 Tryz.underlying320 (by kernel_rfl)
def ty321 : Ty := { kd := .ptr 323, size := 1, bytes := 8, zero := .nilp }
theorem tyok321 : TyOk Tryz.prog 321 ty321 := TyOk.of Tryz.type321 Tryz.underlying321 (by kernel_rfl)
def ty322 : Ty := { kd := .strct [(0, 9)], size := 1, bytes := 16, zero := .agg [.str []] }
theorem tyok322 : TyOk Tryz.prog 322 ty322 := TyOk.of Tryz.type322 Tryz.underlying322 (by kernel_rfl)
def ty323 : Ty := { kd := .strct [(0, 9)], size := 1, bytes := 16, zero := .agg [.str []] }
theorem tyok323 : TyOk Tryz.prog 323 ty323 := TyOk.of Tryz.type323 Tryz.underlying323 (by kernel_rfl)
def ty324 : Ty := { kd := .arr 32 5, size := 32, bytes := 32, zero := .agg [.int .u8 0, .int .u8 0, .int .u8 0, .int .u8 0, .int .u8 0, .int .u8 0, .int .u8 0, .int .u8 0, .int .u8 0, .int .u8 0, .int .u8 0, .int .u8 0, .int .u8 0, .int .u8 0, .int .u8 0, .int .u8 0, .int .u8 0, .int .u8 0, .int .u8 0, .int .u8 0, .int .u8 0, .int .u8 0, .int .u8 0, .int .u8 0, .int .u8 0, .int .u8 0, .int .u8 0, .int .u8 0, .int .u8 0, .int .u8 0, .int .u8 0, .int .u8 0] }
theorem tyok324 : TyOk Tryz.prog 324 ty324 := TyOk.of Tryz.type324 Tryz.underlying324 (by kernel_rfl)
def ty325 : Ty := { kd := .arr 64 5, size := 64, bytes := 64, zero := .agg [.int .u8 0, .int .u8 0, .int .u8 0, .int .u8 0, .int .u8 0, .int .u8 0, .int .u8 0, .int .u8 0, .int .u8 0, .int .u8 0, .int .u8 0, .int .u8 0, .int .u8 0, .int .u8 0, .int .u8 0, .int .u8 0, .int .u8 0, .int .u8 0, .int .u8 0, .int .u8 0, .int .u8 0, .int .u8 0, .int .u8 0, .int .u8 0, .int .u8 0, .int .u8 0, .int .u8 0, .int .u8 0, .int .u8 0, .int .u8 0, .int .u8 0, .int .u8 0, .int .u8 0, .int .u8 0, .int .u8 0, .int .u8 0, .int .u8 0, .int .u8 0, .int .u8 0, .int .u8 0, .int .u8 0, .int .u8 0, .int .u8 0, .int .u8 0, .int .u8 0, .int .u8 0, .int .u8 0, .int .u8 0, .int .u8 0, .int .u8 0, .int .u8 0, .int .u8 0, .int .u8 0, .int .u8 0, .int .u8 0, .int .u8 0, .int .u8 0, .int .u8 0, .int .u8 0, .int .u8 0, .int .u8 0, .int .u8 0, .int .u8 0, .int .u8 0] }
theorem tyok325 : TyOk Tryz.prog 325 ty325 := TyOk.of Tryz.type325 Tryz.underlying325 (by kernel_rfl)
def ty326 : Ty := { kd := .strct [(0, 17), (1, 17), (2, 17), (3, 9)], size := 4, bytes := 40, zero := .agg [.nilp, .nilp, .nilp, .str []] }
theorem tyok326 : TyOk Tryz.prog 326 ty326 := TyOk.of Tryz.type326 Tryz.underlying326 (by kernel_rfl)
def ty327 : Ty := { kd := .strct [(0, 17), (1, 17), (2, 17), (3, 9)], size := 4, bytes := 40, zero := .agg [.nilp, .nilp, .nilp, .str []] }
theorem tyok327 : TyOk Tryz.prog 327 ty327 := TyOk.of Tryz.type327 Tryz.underlying327 (by kernel_rfl)
def ty328 : Ty := { kd := .arr 0 16, size := 0, bytes := 0, zero := .agg [] }
theorem tyok328 : TyOk Tryz.prog 328 ty328 := TyOk.of Tryz.type328 Tryz.underlying328 (by kernel_rfl)
def ty329 : Ty := { kd := .strct [(0, 328)], size := 0, bytes := 0, zero := .agg [] }
theorem tyok329 : TyOk Tryz.prog 329 ty329 := TyOk.of Tryz.type329 Tryz.underlying329 (by kernel_rfl)
def ty330 : Ty := { kd := .strct [(0, 328)], size := 0, bytes := 0, zero := .agg [] }
theorem tyok330 : TyOk Tryz.prog 330 ty330 := TyOk.of Tryz.type330 Tryz.underlying330 (by kernel_rfl)
def ty331 : Ty := { kd := .int .u8, size := 1, bytes := 1, zero := .int .u8 0 }
theorem tyok331 : TyOk Tryz.prog 331 ty331 := TyOk.of Tryz.type331 Tryz.underlying331 (by kernel_rfl)
def ty332 : Ty := { kd := .int .u8, size := 1, bytes := 1, zero := .int .u8 0 }
theorem tyok332 : TyOk Tryz.prog 332 ty332 := TyOk.of Tryz.type332 Tryz.underlying332 (by kernel_rfl)
def ty333 : Ty := { kd := .func, size := 1, bytes := 8, zero := .nilf }
theorem tyok333 : TyOk Tryz.prog 333 ty333 := TyOk.of Tryz.type333 Tryz.underlying333 (by kernel_rfl)
def ty334 : Ty := { kd := .int .i32, size := 1, bytes := 4, zero := .int .i32 0 }
theorem tyok334 : TyOk Tryz.prog 334 ty334 := TyOk.of Tryz.type334 Tryz.underlying334 (by kernel_rfl)
def ty335 : Ty := { kd := .int .i32, size := 1, bytes := 4, zero := .int .i32 0 }
theorem tyok335 : TyOk Tryz.prog 335 ty335 := TyOk.of Tryz.type335 Tryz.underlying335 (by kernel_rfl)
def ty336 : Ty := { kd := .strct [(0, 12), (1, 12), (2, 170), (3, 331), (4, 5), (5, 5), (6, 332), (7, 333), (8, 279), (9, 334), (10, 335)], size := 11, bytes := 48, zero := .agg [.int .u64 0, .int .u64 0, .int .u32 0, .int .u8 0, .int .u8 0, .int .u8 0, .int .u8 0, .nilf, .nilp, .int .i32 0, .int .i32 0] }
theorem tyok336 : TyOk Tryz.prog 336 ty336 := TyOk.of Tryz.type336 Tryz.underlying336 (by kernel_rfl)
def ty337 : Ty := { kd := .strct [(0, 12), (1, 12), (2, 170), (3, 331), (4, 5), (5, 5), (6, 332), (7, 333), (8, 279), (9, 334), (10, 335)], size := 11, bytes := 48, zero := .agg [.int .u64 0, .int .u64 0, .int .u32 0, .int .u8 0, .int .u8 0, .int .u8 0, .int .u8 0, .nilf, .nilp, .int .i32 0, .int .i32 0] }
theorem tyok337 : TyOk Tryz.prog 337 ty337 := TyOk.of Tryz.type337 Tryz.underlying337 (by kernel_rfl)
def tyTab : BT Ty := (.node 162 (.node 81 (.node 40 (.node 20 (.node 10 (.node 5 (.node 3 (.node 2 (.leaf 1 ty1) (.leaf 2 ty2)) (.node 4 (.leaf 3 ty3) (.leaf 4 ty4))) (.node 7 (.node 6 (.leaf 5 ty5) (.leaf 6 ty6)) (.node 8 (.leaf 7 ty7) (.node 9 (.leaf 8 ty8) (.leaf 9 ty9))))) (.node 15 (.node 12 (.node 11 (.leaf 10 ty10) (.leaf 11 ty11)) (.node 13 (.leaf 12 ty12) (.node 14 (.leaf 13 ty13) (.leaf 14 ty14)))) (.node 17 (.node 16 (.leaf 15 ty15) (.leaf 16 ty16)) (.node 18 (.leaf 17 ty17) (.node 19 (.leaf 18 ty18) (.leaf 19 ty19)))))) (.node 30 (.node 25 (.node 22 (.node 21 (.leaf 20 ty20) (.leaf 21 ty21)) (.node 23 (.leaf 22 ty22) (.node 24 (.leaf 23 ty23) (.leaf 24 ty24)))) (.node 27 (.node 26 (.leaf 25 ty25) (.leaf 26 ty26)) (.node 28 (.leaf 27 ty27) (.node 29 (.leaf 28 ty28) (.leaf 29 ty29))))) (.node 35 (.node 32 (.node 31 (.leaf 30 ty30) (.leaf 31 ty31)) (.node 33 (.leaf 32 ty32) (.node 34 (.leaf 33 ty33) (.leaf 34 ty34)))) (.node 37 (.node 36 (.leaf 35 ty35) (.leaf 36 ty36)) (.node 38 (.leaf 37 ty37) (.node 39 (.leaf 38 ty38) (.leaf 39 ty39))))))) (.node 59 (.node 49 (.node 44 (.node 42 (.node 41 (.leaf 40 ty40) (.leaf 41 ty41)) (.node 43 (.leaf 42 ty42) (.leaf 43 ty43))) (.node 46 (.node 45 (.leaf 44 ty44) (.leaf 45 ty45)) (.node 47 (.leaf 46 ty46) (.node 48 (.leaf 47 ty47) (.leaf 48 ty48))))) (.node 54 (.node 51 (.node 50 (.leaf 49 ty49) (.leaf 50 ty50)) (.node 52 (.leaf 51 ty51) (.node 53 (.leaf 52 ty52) (.leaf 53 ty53)))) (.node 56 (.node 55 (.leaf 54 ty54) (.leaf 55 ty55)) (.node 57 (.leaf 56 ty56) (.node 58 (.leaf 57 ty57) (.leaf 58 ty58)))))) (.node 71 (.node 66 (.node 61 (.node 60 (.leaf 59 ty59) (.leaf 60 ty60)) (.node 63 (.leaf 61 ty61) (.node 65 (.leaf 63 ty63) (.leaf 65 ty65)))) (.node 68 (.node 67 (.leaf 66 ty66) (.leaf 67 ty67)) (.node 69 (.leaf 68 ty68) (.node 70 (.leaf 69 ty69) (.leaf 70 ty70))))) (.node 76 (.node 73 (.node 72 (.leaf 71 ty71) (.leaf 72 ty72)) (.node 74 (.leaf 73 ty73) (.node 75 (.leaf 74 ty74) (.leaf 75 ty75)))) (.node 78 (.node 77 (.leaf 76 ty76) (.leaf 77 ty77)) (.node 79 (.leaf 78 ty78) (.node 80 (.leaf 79 ty79) (.leaf 80 ty80)))))))) (.node 122 (.node 101 (.node 91 (.node 85 (.node 83 (.node 82 (.leaf 81 ty81) (.leaf 82 ty82)) (.node 84 (.leaf 83 ty83) (.leaf 84 ty84))) (.node 87 (.node 86 (.leaf 85 ty85) (.leaf 86 ty86)) (.node 88 (.leaf 87 ty87) (.node 90 (.leaf 88 ty88) (.leaf 90 ty90))))) (.node 96 (.node 93 (.node 92 (.leaf 91 ty91) (.leaf 92 ty92)) (.node 94 (.leaf 93 ty93) (.node 95 (.leaf 94 ty94) (.leaf 95 ty95)))) (.node 98 (.node 97 (.leaf 96 ty96) (.leaf 97 ty97)) (.node 99 (.leaf 98 ty98) (.node 100 (.leaf 99 ty99) (.leaf 100 ty100)))))) (.node 111 (.node 106 (.node 103 (.node 102 (.leaf 101 ty101) (.leaf 102 ty102)) (.node 104 (.leaf 103 ty103) (.node 105 (.leaf 104 ty104) (.leaf 105 ty105)))) (.node 108 (.node 107 (.leaf 106 ty106) (.leaf 107 ty107)) (.node 109 (.leaf 108 ty108) (.node 110 (.leaf 109 ty109) (.leaf 110 ty110))))) (.node 116 (.node 113 (.node 112 (.leaf 111 ty111) (.leaf 112 ty112)) (.node 114 (.leaf 113 ty113) (.node 115 (.leaf 114 ty114) (.leaf 115 ty115)))) (.node 119 (.node 117 (.leaf 116 ty116) (.leaf 117 ty117)) (.node 120 (.leaf 119 ty119) (.node 121 (.leaf 120 ty120) (.leaf 121 ty121))))))) (.node 142 (.node 132 (.node 127 (.node 124 (.node 123 (.leaf 122 ty122) (.leaf 123 ty123)) (.node 125 (.leaf 124 ty124) (.node 126 (.leaf 125 ty125) (.leaf 126 ty126)))) (.node 129 (.node 128 (.leaf 127 ty127) (.leaf 128 ty128)) (.node 130 (.leaf 129 ty129) (.node 131 (.leaf 130 ty130) (.leaf 131 ty131))))) (.node 137 (.node 134 (.node 133 (.leaf 132 ty132) (.leaf 133 ty133)) (.node 135 (.leaf 134 ty134) (.node 136 (.leaf 135 ty135) (.leaf 136 ty136)))) (.node 139 (.node 138 (.leaf 137 ty137) (.leaf 138 ty138)) (.node 140 (.leaf 139 ty139) (.node 141 (.leaf 140 ty140) (.leaf 141 ty141)))))) (.node 152 (.node 147 (.node 144 (.node 143 (.leaf 142 ty142) (.leaf 143 ty143)) (.node 145 (.leaf 144 ty144) (.node 146 (.leaf 145 ty145) (.leaf 146 ty146)))) (.node 149 (.node 148 (.leaf 147 ty147) (.leaf 148 ty148)) (.node 150 (.leaf 149 ty149) (.node 151 (.leaf 150 ty150) (.leaf 151 ty151))))) (.node 157 (.node 154 (.node 153 (.leaf 152 ty152) (.leaf 153 ty153)) (.node 155 (.leaf 154 ty154) (.node 156 (.leaf 155 ty155) (.leaf 156 ty156)))) (.node 159 (.node 158 (.leaf 157 ty157) (.leaf 158 ty158)) (.node 160 (.leaf 159 ty159) (.node 161 (.leaf 160 ty160) (.leaf 161 ty161))))))))) (.node 247 (.node 203 (.node 182 (.node 172 (.node 167 (.node 165 (.node 164 (.leaf 162 ty162) (.leaf 164 ty164)) (.node 166 (.leaf 165 ty165) (.leaf 166 ty166))) (.node 169 (.node 168 (.leaf 167 ty167) (.leaf 168 ty168)) (.node 170 (.leaf 169 ty169) (.node 171 (.leaf 170 ty170) (.leaf 171 ty171))))) (.node 177 (.node 174 (.node 173 (.leaf 172 ty172) (.leaf 173 ty173)) (.node 175 (.leaf 174 ty174) (.node 176 (.leaf 175 ty175) (.leaf 176 ty176)))) (.node 179 (.node 178 (.leaf 177 ty177) (.leaf 178 ty178)) (.node 180 (.leaf 179 ty179) (.node 181 (.leaf 180 ty180) (.leaf 181 ty181)))))) (.node 193 (.node 188 (.node 184 (.node 183 (.leaf 182 ty182) (.leaf 183 ty183)) (.node 185 (.leaf 184 ty184) (.node 186 (.leaf 185 ty185) (.leaf 186 ty186)))) (.node 190 (.node 189 (.leaf 188 ty188) (.leaf 189 ty189)) (.node 191 (.leaf 190 ty190) (.node 192 (.leaf 191 ty191) (.leaf 192 ty192))))) (.node 198 (.node 195 (.node 194 (.leaf 193 ty193) (.leaf 194 ty194)) (.node 196 (.leaf 195 ty195) (.node 197 (.leaf 196 ty196) (.leaf 197 ty197)))) (.node 200 (.node 199 (.leaf 198 ty198) (.leaf 199 ty199)) (.node 201 (.leaf 200 ty200) (.node 202 (.leaf 201 ty201) (.leaf 202 ty202))))))) (.node 226 (.node 215 (.node 209 (.node 206 (.node 205 (.leaf 203 ty203) (.leaf 205 ty205)) (.node 207 (.leaf 206 ty206) (.leaf 207 ty207))) (.node 212 (.node 211 (.leaf 209 ty209) (.leaf 211 ty211)) (.node 213 (.leaf 212 ty212) (.node 214 (.leaf 213 ty213) (.leaf 214 ty214))))) (.node 220 (.node 217 (.node 216 (.leaf 215 ty215) (.leaf 216 ty216)) (.node 218 (.leaf 217 ty217) (.node 219 (.leaf 218 ty218) (.leaf 219 ty219)))) (.node 222 (.node 221 (.leaf 220 ty220) (.leaf 221 ty221)) (.node 223 (.leaf 222 ty222) (.node 224 (.leaf 223 ty223) (.leaf 224 ty224)))))) (.node 237 (.node 231 (.node 228 (.node 227 (.leaf 226 ty226) (.leaf 227 ty227)) (.node 229 (.leaf 228 ty228) (.node 230 (.leaf 229 ty229) (.leaf 230 ty230)))) (.node 234 (.node 233 (.leaf 231 ty231) (.leaf 233 ty233)) (.node 235 (.leaf 234 ty234) (.node 236 (.leaf 235 ty235) (.leaf 236 ty236))))) (.node 242 (.node 239 (.node 238 (.leaf 237 ty237) (.leaf 238 ty238)) (.node 240 (.leaf 239 ty239) (.node 241 (.leaf 240 ty240) (.leaf 241 ty241)))) (.node 244 (.node 243 (.leaf 242 ty242) (.leaf 243 ty243)) (.node 245 (.leaf 244 ty244) (.node 246 (.leaf 245 ty245) (.leaf 246 ty246)))))))) (.node 292 (.node 269 (.node 257 (.node 251 (.node 249 (.node 248 (.leaf 247 ty247) (.leaf 248 ty248)) (.node 250 (.leaf 249 ty249) (.leaf 250 ty250))) (.node 254 (.node 253 (.leaf 251 ty251) (.leaf 253 ty253)) (.node 255 (.leaf 254 ty254) (.node 256 (.leaf 255 ty255) (.leaf 256 ty256))))) (.node 263 (.node 259 (.node 258 (.leaf 257 ty257) (.leaf 258 ty258)) (.node 260 (.leaf 259 ty259) (.node 262 (.leaf 260 ty260) (.leaf 262 ty262)))) (.node 265 (.node 264 (.leaf 263 ty263) (.leaf 264 ty264)) (.node 267 (.leaf 265 ty265) (.node 268 (.leaf 267 ty267) (.leaf 268 ty268)))))) (.node 280 (.node 274 (.node 271 (.node 270 (.leaf 269 ty269) (.leaf 270 ty270)) (.node 272 (.leaf 271 ty271) (.node 273 (.leaf 272 ty272) (.leaf 273 ty273)))) (.node 276 (.node 275 (.leaf 274 ty274) (.leaf 275 ty275)) (.node 278 (.leaf 276 ty276) (.node 279 (.leaf 278 ty278) (.leaf 279 ty279))))) (.node 287 (.node 283 (.node 282 (.leaf 280 ty280) (.leaf 282 ty282)) (.node 285 (.leaf 283 ty283) (.node 286 (.leaf 285 ty285) (.leaf 286 ty286)))) (.node 289 (.node 288 (.leaf 287 ty287) (.leaf 288 ty288)) (.node 290 (.leaf 289 ty289) (.node 291 (.leaf 290 ty290) (.leaf 291 ty291))))))) (.node 318 (.node 305 (.node 298 (.node 294 (.node 293 (.leaf 292 ty292) (.leaf 293 ty293)) (.node 295 (.leaf 294 ty294) (.node 297 (.leaf 295 ty295) (.leaf 297 ty297)))) (.node 301 (.node 299 (.leaf 298 ty298) (.leaf 299 ty299)) (.node 302 (.leaf 301 ty301) (.node 303 (.leaf 302 ty302) (.leaf 303 ty303))))) (.node 311 (.node 308 (.node 306 (.leaf 305 ty305) (.leaf 306 ty306)) (.node 309 (.leaf 308 ty308) (.node 310 (.leaf 309 ty309) (.leaf 310 ty310)))) (.node 314 (.node 312 (.leaf 311 ty311) (.leaf 312 ty312)) (.node 316 (.leaf 314 ty314) (.node 317 (.leaf 316 ty316) (.leaf 317 ty317)))))) (.node 328 (.node 323 (.node 320 (.node 319 (.leaf 318 ty318) (.leaf 319 ty319)) (.node 321 (.leaf 320 ty320) (.node 322 (.leaf 321 ty321) (.leaf 322 ty322)))) (.node 325 (.node 324 (.leaf 323 ty323) (.leaf 324 ty324)) (.node 326 (.leaf 325 ty325) (.node 327 (.leaf 326 ty326) (.leaf 327 ty327))))) (.node 333 (.node 330 (.node 329 (.leaf 328 ty328) (.leaf 329 ty329)) (.node 331 (.leaf 330 ty330) (.node 332 (.leaf 331 ty331) (.leaf 332 ty332)))) (.node 335 (.node 334 (.leaf 333 ty333) (.leaf 334 ty334)) (.node 336 (.leaf 335 ty335) (.node 337 (.leaf 336 ty336) (.leaf 337 ty337))))))))))
theorem tyTab_ok : tyTab.All (TyOk Tryz.prog) := ⟨⟨⟨⟨⟨⟨⟨⟨tyok1, tyok2⟩, ⟨tyok3, tyok4⟩⟩, ⟨⟨tyok5, tyok6⟩, ⟨tyok7, ⟨tyok8, tyok9⟩⟩⟩⟩, ⟨⟨⟨tyok10, tyok11⟩, ⟨tyok12, ⟨tyok13, tyok14⟩⟩⟩, ⟨⟨tyok15, tyok16⟩, ⟨tyok17, ⟨tyok18, tyok19⟩⟩⟩⟩⟩, ⟨⟨⟨⟨tyok20, tyok21⟩, ⟨tyok22, ⟨tyok23, tyok24⟩⟩⟩, ⟨⟨tyok25, tyok26⟩, ⟨tyok27, ⟨tyok28, tyok29⟩⟩⟩⟩, ⟨⟨⟨tyok30, tyok31⟩, ⟨tyok32, ⟨tyok33, tyok34⟩⟩⟩, ⟨⟨tyok35, tyok36⟩, ⟨tyok37, ⟨tyok38, tyok39⟩⟩⟩⟩⟩⟩, ⟨⟨⟨⟨⟨tyok40, tyok41⟩, ⟨tyok42, tyok43⟩⟩, ⟨⟨tyok44, tyok45⟩, ⟨tyok46, ⟨tyok47, tyok48⟩⟩⟩⟩, ⟨⟨⟨tyok49, tyok50⟩, ⟨tyok51, ⟨tyok52, tyok53⟩⟩⟩, ⟨⟨tyok54, tyok55⟩, ⟨tyok56, ⟨tyok57, tyok58⟩⟩⟩⟩⟩, ⟨⟨⟨⟨tyok59, tyok60⟩, ⟨tyok61, ⟨tyok63, tyok65⟩⟩⟩, ⟨⟨tyok66, tyok67⟩, ⟨tyok68, ⟨tyok69, tyok70⟩⟩⟩⟩, ⟨⟨⟨tyok71, tyok72⟩, ⟨tyok73, ⟨tyok74, tyok75⟩⟩⟩, ⟨⟨tyok76, tyok77⟩, ⟨tyok78, ⟨tyok79, tyok80⟩⟩⟩⟩⟩⟩⟩, ⟨⟨⟨⟨⟨⟨tyok81, tyok82⟩, ⟨tyok83, tyok84⟩⟩, ⟨⟨tyok85, tyok86⟩, ⟨tyok87, ⟨tyok88, tyok90⟩⟩⟩⟩, ⟨⟨⟨tyok91, tyok92⟩, ⟨tyok93, ⟨tyok94, tyok95⟩⟩⟩, ⟨⟨tyok96, tyok97⟩, ⟨tyok98, ⟨tyok99, tyok100⟩⟩⟩⟩⟩, ⟨⟨⟨⟨tyok101, tyok102⟩, ⟨tyok103, ⟨tyok104, tyok105⟩⟩⟩, ⟨⟨tyok106, tyok107⟩, ⟨tyok108, ⟨tyok109, tyok110⟩⟩⟩⟩, ⟨⟨⟨tyok111, tyok112⟩, ⟨tyok113, ⟨tyok114, tyok115⟩⟩⟩, ⟨⟨tyok116, tyok117⟩, ⟨tyok119, ⟨tyok120, tyok121⟩⟩⟩⟩⟩⟩, ⟨⟨⟨⟨⟨tyok122, tyok123⟩, ⟨tyok124, ⟨tyok125, tyok126⟩⟩⟩, ⟨⟨tyok127, tyok128⟩, ⟨tyok129, ⟨tyok130, tyok131⟩⟩⟩⟩, ⟨⟨⟨tyok132, tyok133⟩, ⟨tyok134, ⟨tyok135, tyok136⟩⟩⟩, ⟨⟨tyok137, tyok138⟩, ⟨tyok139, ⟨tyok140, tyok141⟩⟩⟩⟩⟩, ⟨⟨⟨⟨tyok142, tyok143⟩, ⟨tyok144, ⟨tyok145, tyok146⟩⟩⟩, ⟨⟨tyok147, tyok148⟩, ⟨tyok149, ⟨tyok150, tyok151⟩⟩⟩⟩, ⟨⟨⟨tyok152, tyok153⟩, ⟨tyok154, ⟨tyok155, tyok156⟩⟩⟩, ⟨⟨tyok157, tyok158⟩, ⟨tyok159, ⟨tyok160, tyok161⟩⟩⟩⟩⟩⟩⟩⟩, ⟨⟨⟨⟨⟨⟨⟨tyok162, tyok164⟩, ⟨tyok165, tyok166⟩⟩, ⟨⟨tyok167, tyok168⟩, ⟨tyok169, ⟨tyok170, tyok171⟩⟩⟩⟩, ⟨⟨⟨tyok172, tyok173⟩, ⟨tyok174, ⟨tyok175, tyok176⟩⟩⟩, ⟨⟨tyok177, tyok178⟩, ⟨tyok179, ⟨tyok180, tyok181⟩⟩⟩⟩⟩, ⟨⟨⟨⟨tyok182, tyok183⟩, ⟨tyok184, ⟨tyok185, tyok186⟩⟩⟩, ⟨⟨tyok188, tyok189⟩, ⟨tyok190, ⟨tyok191, tyok192⟩⟩⟩⟩, ⟨⟨⟨tyok193, tyok194⟩, ⟨tyok195, ⟨tyok196, tyok197⟩⟩⟩, ⟨⟨tyok198, tyok199⟩, ⟨tyok200, ⟨tyok201, tyok202⟩⟩⟩⟩⟩⟩, ⟨⟨⟨⟨⟨tyok203, tyok205⟩, ⟨tyok206, tyok207⟩⟩, ⟨⟨tyok209, tyok211⟩, ⟨tyok212, ⟨tyok213, tyok214⟩⟩⟩⟩, ⟨⟨⟨tyok215, tyok216⟩, ⟨tyok217, ⟨tyok218, tyok219⟩⟩⟩, ⟨⟨tyok220, tyok221⟩, ⟨tyok222, ⟨tyok223, tyok224⟩⟩⟩⟩⟩, ⟨⟨⟨⟨tyok226, tyok227⟩, ⟨tyok228, ⟨tyok229, tyok230⟩⟩⟩, ⟨⟨tyok231, tyok233⟩, ⟨tyok234, ⟨tyok235, tyok236⟩⟩⟩⟩, ⟨⟨⟨tyok237, tyok238⟩, ⟨tyok239, ⟨tyok240, tyok241⟩⟩⟩, ⟨⟨tyok242, tyok243⟩, ⟨tyok244, ⟨tyok245, tyok246⟩⟩⟩⟩⟩⟩⟩, ⟨⟨⟨⟨⟨⟨tyok247, tyok248⟩, ⟨tyok249, tyok250⟩⟩, ⟨⟨tyok251, tyok253⟩, ⟨tyok254, ⟨tyok255, tyok256⟩⟩⟩⟩, ⟨⟨⟨tyok257, tyok258⟩, ⟨tyok259, ⟨tyok260, tyok262⟩⟩⟩, ⟨⟨tyok263, tyok264⟩, ⟨tyok265, ⟨tyok267, tyok268⟩⟩⟩⟩⟩, ⟨⟨⟨⟨tyok269, tyok270⟩, ⟨tyok271, ⟨tyok272, tyok273⟩⟩⟩, ⟨⟨tyok274, tyok275⟩, ⟨tyok276, ⟨tyok278, tyok279⟩⟩⟩⟩, ⟨⟨⟨tyok280, tyok282⟩, ⟨tyok283, ⟨tyok285, tyok286⟩⟩⟩, ⟨⟨tyok287, tyok288⟩, ⟨tyok289, ⟨tyok290, tyok291⟩⟩⟩⟩⟩⟩, ⟨⟨⟨⟨⟨tyok292, tyok293⟩, ⟨tyok294, ⟨tyok295, tyok297⟩⟩⟩, ⟨⟨tyok298, tyok299⟩, ⟨tyok301, ⟨tyok302, tyok303⟩⟩⟩⟩, ⟨⟨⟨tyok305, tyok306⟩, ⟨tyok308, ⟨tyok309, tyok310⟩⟩⟩, ⟨⟨tyok311, tyok312⟩, ⟨tyok314, ⟨tyok316, tyok317⟩⟩⟩⟩⟩, ⟨⟨⟨⟨tyok318, tyok319⟩, ⟨tyok320, ⟨tyok321, tyok322⟩⟩⟩, ⟨⟨tyok323, tyok324⟩, ⟨tyok325, ⟨tyok326, tyok327⟩⟩⟩⟩, ⟨⟨⟨tyok328, tyok329⟩, ⟨tyok330, ⟨tyok331, tyok332⟩⟩⟩, ⟨⟨tyok333, tyok334⟩, ⟨tyok335, ⟨tyok336, tyok337⟩⟩⟩⟩⟩⟩⟩⟩⟩
theorem fnok2 : FnOk Tryz.prog 2 (fnOf Tryz.f2) := FnOk.of Tryz.func2 (by kernel_rfl) (by kernel_rfl)
theorem fnok3 : FnOk Tryz.prog 3 (fnOf Tryz.f3) := FnOk.of Tryz.func3 (by kernel_rfl) (by kernel_rfl)
theorem fnok4 : FnOk Tryz.prog 4 (fnOf Tryz.f4) := FnOk.of Tryz.func4 (by kernel_rfl) (by kernel_rfl)
theorem fnok5 : FnOk Tryz.prog 5 (fnOf Tryz.f5) := FnOk.of Tryz.func5 (by kernel_rfl) (by kernel_rfl)
theorem fnok6 : FnOk Tryz.prog 6 (fnOf Tryz.f6) := FnOk.of Tryz.func6 (by kernel_rfl) (by kernel_rfl)
theorem fnok7 : FnOk Tryz.prog 7 (fnOf Tryz.f7) := FnOk.of Tryz.func7 (by kernel_rfl) (by kernel_rfl)
theorem fnok8 : FnOk Tryz.prog 8 (fnOf Tryz.f8) := FnOk.of Tryz.func8 (by kernel_rfl) (by kernel_rfl)
theorem fnok9 : FnOk Tryz.prog 9 (fnOf Tryz.f9) := FnOk.of Tryz.func9 (by kernel_rfl) (by kernel_rfl)
theorem fnok10 : FnOk Tryz.prog 10 (fnOf Tryz.f10) := FnOk.of Tryz.func10 (by kernel_rfl) (by kernel_rfl)
theorem fnok11 : FnOk Tryz.prog 11 (fnOf Tryz.f11) := FnOk.of Tryz.func11 (by kernel_rfl) (by kernel_rfl)
theorem fnok12 : FnOk Tryz.prog 12 (fnOf Tryz.f12) := FnOk.of Tryz.func12 (by kernel_rfl) (by kernel_rfl)
theorem fnok13 : FnOk Tryz.prog 13 (fnOf Tryz.f13) := FnOk.of Tryz.func13 (by kernel_rfl) (by kernel_rfl)
theorem fnok14 : FnOk Tryz.prog 14 (fnOf Tryz.f14) := FnOk.of Tryz.func14 (by kernel_rfl) (by kernel_rfl)
theorem fnok15 : FnOk Tryz.prog 15 (fnOf Tryz.f15) := FnOk.of Tryz.func15 (by kernel_rfl) (by kernel_rfl)
theorem fnok16 : FnOk Tryz.prog 16 (fnOf Tryz.f16) := FnOk.of Tryz.func16 (by kernel_rfl) (by kernel_rfl)
theorem fnok17 : FnOk Tryz.prog 17 (fnOf Tryz.f17) := FnOk.of Tryz.func17 (by kernel_rfl) (by kernel_rfl)
theorem fnok18 : FnOk Tryz.prog 18 (fnOf Tryz.f18) := FnOk.of Tryz.func18 (by kernel_rfl) (by kernel_rfl)
theorem fnok19 : FnOk Tryz.prog 19 (fnOf Tryz.f19) := FnOk.of Tryz.func19 (by kernel_rfl) (by kernel_rfl)
theorem fnok20 : FnOk Tryz.prog 20 (fnOf Tryz.f20) := FnOk.of Tryz.func20 (by kernel_rfl) (by kernel_rfl)
theorem fnok21 : FnOk Tryz.prog 21 (fnOf Tryz.f21) := FnOk.of Tryz.func21 (by kernel_rfl) (by kernel_rfl)
theorem fnok22 : FnOk Tryz.prog 22 (fnOf Tryz.f22) := FnOk.of Tryz.func22 (by kernel_rfl) (by kernel_rfl)
theorem fnok23 : FnOk Tryz.prog 23 (fnOf Tryz.f23) := FnOk.of Tryz.func23 (by kernel_rfl) (by kernel_rfl)
theorem fnok24 : FnOk Tryz.prog 24 (fnOf Tryz.f24) := FnOk.of Tryz.func24 (by kernel_rfl) (by kernel_rfl)
theorem fnok25 : FnOk Tryz.prog 25 (fnOf Tryz.f25) := FnOk.of Tryz.func25 (by kernel_rfl) (by kernel_rfl)
theorem fnok26 : FnOk Tryz.prog 26 (fnOf Tryz.f26) := FnOk.of Tryz.func26 (by kernel_rfl) (by kernel_rfl)
theorem fnok27 : FnOk Tryz.prog 27 (fnOf Tryz.f27) := FnOk.of Tryz.func27 (by kernel_rfl) (by kernel_rfl)
theorem fnok28 : FnOk Tryz.prog 28 (fnOf Tryz.f28) := FnOk.of Tryz.func28 (by kernel_rfl) (by kernel_rfl)
theorem fnok29 : FnOk Tryz.prog 29 (fnOf Tryz.f29) := FnOk.of Tryz.func29 (by kernel_rfl) (by kernel_rfl)
theorem fnok30 : FnOk Tryz.prog 30 (fnOf Tryz.f30) := FnOk.of Tryz.func30 (by kernel_rfl) (by kernel_rfl)
theorem fnok31 : FnOk Tryz.prog 31 (fnOf Tryz.f31) := FnOk.of Tryz.func31 (by kernel_rfl) (by kernel_rfl)
theorem fnok32 : FnOk Tryz.prog 32 (fnOf Tryz.f32) := FnOk.of Tryz.func32 (by kernel_rfl) (by kernel_rfl)
theorem fnok33 : FnOk Tryz.prog 33 (fnOf Tryz.f33) := FnOk.of Tryz.func33 (by kernel_rfl) (by kernel_rfl)
theorem fnok34 : FnOk Tryz.prog 34 (fnOf Tryz.f34) := FnOk.of Tryz.func34 (by kernel_rfl) (by kernel_rfl)
theorem fnok35 : FnOk Tryz.prog 35 (fnOf Tryz.f35) := FnOk.of Tryz.func35 (by kernel_rfl) (by kernel_rfl)
theorem fnok36 : FnOk Tryz.prog 36 (fnOf Tryz.f36) := FnOk.of Tryz.func36 (by kernel_rfl) (by kernel_rfl)
theorem fnok37 : FnOk Tryz.prog 37 (fnOf Tryz.f37) := FnOk.of Tryz.func37 (by kernel_rfl) (by kernel_rfl)
theorem fnok38 : FnOk Tryz.prog 38 (fnOf Tryz.f38) := FnOk.of Tryz.func38 (by kernel_rfl) (by kernel_rfl)
theorem fnok39 : FnOk Tryz.prog 39 (fnOf Tryz.f39) := FnOk.of Tryz.func39 (by kernel_rfl) (by kernel_rfl)
theorem fnok40 : FnOk Tryz.prog 40 (fnOf Tryz.f40) := FnOk.of Tryz.func40 (by kernel_rfl) (by kernel_rfl)
theorem fnok41 : FnOk Tryz.prog 41 (fnOf Tryz.f41) := FnOk.of Tryz.func41 (by kernel_rfl) (by kernel_rfl)
theorem fnok42 : FnOk Tryz.prog 42 (fnOf Tryz.f42) := FnOk.of Tryz.func42 (by kernel_rfl) (by kernel_rfl)
theorem fnok43 : FnOk Tryz.prog 43 (fnOf Tryz.f43) := FnOk.of Tryz.func43 (by kernel_rfl) (by kernel_rfl)
theorem fnok44 : FnOk Tryz.prog 44 (fnOf Tryz.f44) := FnOk.of Tryz.func44 (by kernel_rfl) (by kernel_rfl)
theorem fnok45 : FnOk Tryz.prog 45 (fnOf Tryz.f45) := FnOk.of Tryz.func45 (by kernel_rfl) (by kernel_rfl)
theorem fnok46 : FnOk Tryz.prog 46 (fnOf Tryz.f46) := FnOk.of Tryz.func46 (by kernel_rfl) (by kernel_rfl)
theorem fnok47 : FnOk Tryz.prog 47 (fnOf Tryz.f47) := FnOk.of Tryz.func47 (by kernel_rfl) (by kernel_rfl)
theorem fnok48 : FnOk Tryz.prog 48 (fnOf Tryz.f48) := FnOk.of Tryz.func48 (by kernel_rfl) (by kernel_rfl)
theorem fnok49 : FnOk Tryz.prog 49 (fnOf Tryz.f49) := FnOk.of Tryz.func49 (by kernel_rfl) (by kernel_rfl)
theorem fnok50 : FnOk Tryz.prog 50 (fnOf Tryz.f50) := FnOk.of Tryz.func50 (by kernel_rfl) (by kernel_rfl)
theorem fnok51 : FnOk Tryz.prog 51 (fnOf Tryz.f51) := FnOk.of Tryz.func51 (by kernel_rfl) (by kernel_rfl)
theorem fnok52 : FnOk Tryz.prog 52 (fnOf Tryz.f52) := FnOk.of Tryz.func52 (by kernel_rfl) (by kernel_rfl)
theorem fnok53 : FnOk Tryz.prog 53 (fnOf Tryz.f53) := FnOk.of Tryz.func53 (by kernel_rfl) (by kernel_rfl)
theorem fnok54 : FnOk Tryz.prog 54 (fnOf Tryz.f54) := FnOk.of Tryz.func54 (by kernel_rfl) (by kernel_rfl)
theorem fnok55 : FnOk Tryz.prog 55 (fnOf Tryz.f55) := FnOk.of Tryz.func55 (by kernel_rfl) (by kernel_rfl)
theorem fnok56 : FnOk Tryz.prog 56 (fnOf Tryz.f56) := FnOk.of Tryz.func56 (by kernel_rfl) (by kernel_rfl)
theorem fnok57 : FnOk Tryz.prog 57 (fnOf Tryz.f57) := FnOk.of Tryz.func57 (by kernel_rfl) (by kernel_rfl)
theorem fnok58 : FnOk Tryz.prog 58 (fnOf Tryz.f58) := FnOk.of Tryz.func58 (by kernel_rfl) (by kernel_rfl)
theorem fnok59 : FnOk Tryz.prog 59 (fnOf Tryz.f59) := FnOk.of Tryz.func59 (by kernel_rfl) (by kernel_rfl)
theorem fnok60 : FnOk Tryz.prog 60 (fnOf Tryz.f60) := FnOk.of Tryz.func60 (by kernel_rfl) (by kernel_rfl)
theorem fnok61 : FnOk Tryz.prog 61 (fnOf Tryz.f61) := FnOk.of Tryz.func61 (by kernel_rfl) (by kernel_rfl)
theorem fnok62 : FnOk Tryz.prog 62 (fnOf Tryz.f62) := FnOk.of Tryz.func62 (by kernel_rfl) (by kernel_rfl)
theorem fnok63 : FnOk Tryz.prog 63 (fnOf Tryz.f63) := FnOk.of Tryz.func63 (by kernel_rfl) (by kernel_rfl)
theorem fnok64 : FnOk Tryz.prog 64 (fnOf Tryz.f64) := FnOk.of Tryz.func64 (by kernel_rfl) (by kernel_rfl)
theorem fnok65 : FnOk Tryz.prog 65 (fnOf Tryz.f65) := FnOk.of Tryz.func65 (by kernel_rfl) (by kernel_rfl)
theorem fnok66 : FnOk Tryz.prog 66 (fnOf Tryz.f66) := FnOk.of Tryz.func66 (by kernel_rfl) (by kernel_rfl)
theorem fnok67 : FnOk Tryz.prog 67 (fnOf Tryz.f67) := FnOk.of Tryz.func67 (by kernel_rfl) (by kernel_rfl)
theorem fnok68 : FnOk Tryz.prog 68 (fnOf Tryz.f68) := FnOk.of Tryz.func68 (by kernel_rfl) (by kernel_rfl)
theorem fnok69 : FnOk Tryz.prog 69 (fnOf Tryz.f69) := FnOk.of Tryz.func69 (by kernel_rfl) (by kernel_rfl)
theorem fnok70 : FnOk Tryz.prog 70 (fnOf Tryz.f70) := FnOk.of Tryz.func70 (by kernel_rfl) (by kernel_rfl)
theorem fnok71 : FnOk Tryz.prog 71 (fnOf Tryz.f71) := FnOk.of Tryz.func71 (by kernel_rfl) (by kernel_rfl)
theorem fnok72 : FnOk Tryz.prog 72 (fnOf Tryz.f72) := FnOk.of Tryz.func72 (by kernel_rfl) (by kernel_rfl)
theorem fnok73 : FnOk Tryz.prog 73 (fnOf Tryz.f73) := FnOk.of Tryz.func73 (by kernel_rfl) (by kernel_rfl)
theorem fnok74 : FnOk Tryz.prog 74 (fnOf Tryz.f74) := FnOk.of Tryz.func74 (by kernel_rfl) (by kernel_rfl)
theorem fnok75 : FnOk Tryz.prog 75 (fnOf Tryz.f75) := FnOk.of Tryz.func75 (by kernel_rfl) (by kernel_rfl)
theorem fnok76 : FnOk Tryz.prog 76 (fnOf Tryz.f76) := FnOk.of Tryz.func76 (by kernel_rfl) (by kernel_rfl)
theorem fnok77 : FnOk Tryz.prog 77 (fnOf Tryz.f77) := FnOk.of Tryz.func77 (by kernel_rfl) (by kernel_rfl)
theorem fnok78 : FnOk Tryz.prog 78 (fnOf Tryz.f78) := FnOk.of Tryz.func78 (by kernel_rfl) (by kernel_rfl)
theorem fnok79 : FnOk Tryz.prog 79 (fnOf Tryz.f79) := FnOk.of Tryz.func79 (by kernel_rfl) (by kernel_rfl)
theorem fnok80 : FnOk Tryz.prog 80 (fnOf Tryz.f80) := FnOk.of Tryz.func80 (by kernel_rfl) (by kernel_rfl)
theorem fnok81 : FnOk Tryz.prog 81 (fnOf Tryz.f81) := FnOk.of Tryz.func81 (by kernel_rfl) (by kernel_rfl)
theorem fnok82 : FnOk Tryz.prog 82 (fnOf Tryz.f82) := FnOk.of Tryz.func82 (by kernel_rfl) (by kernel_rfl)
theorem fnok83 : FnOk Tryz.prog 83 (fnOf Tryz.f83) := FnOk.of Tryz.func83 (by kernel_rfl) (by kernel_rfl)
theorem fnok84 : FnOk Tryz.prog 84 (fnOf Tryz.f84) := FnOk.of Tryz.func84 (by kernel_rfl) (by kernel_rfl)
theorem fnok85 : FnOk Tryz.prog 85 (fnOf Tryz.f85) := FnOk.of Tryz.func85 (by kernel_rfl) (by kernel_rfl)
theorem fnok86 : FnOk Tryz.prog 86 (fnOf Tryz.f86) := FnOk.of Tryz.func86 (by kernel_rfl) (by kernel_rfl)
theorem fnok87 : FnOk Tryz.prog 87 (fnOf Tryz.f87) := FnOk.of Tryz.func87 (by kernel_rfl) (by kernel_rfl)
theorem fnok88 : FnOk Tryz.prog 88 (fnOf Tryz.f88) := FnOk.of Tryz.func88 (by kernel_rfl) (by kernel_rfl)
theorem fnok89 : FnOk Tryz.prog 89 (fnOf Tryz.f89) := FnOk.of Tryz.func89 (by kernel_rfl) (by kernel_rfl)
theorem fnok90 : FnOk Tryz.prog 90 (fnOf Tryz.f90) := FnOk.of Tryz.func90 (by kernel_rfl) (by kernel_rfl)
theorem fnok91 : FnOk Tryz.prog 91 (fnOf Tryz.f91) := FnOk.of Tryz.func91 (by kernel_rfl) (by kernel_rfl)
theorem fnok92 : FnOk Tryz.prog 92 (fnOf Tryz.f92) := FnOk.of Tryz.func92 (by kernel_rfl) (by kernel_rfl)
theorem fnok93 : FnOk Tryz.prog 93 (fnOf Tryz.f93) := FnOk.of Tryz.func93 (by kernel_rfl) (by kernel_rfl)
theorem fnok94 : FnOk Tryz.prog 94 (fnOf Tryz.f94) := FnOk.of Tryz.func94 (by kernel_rfl) (by kernel_rfl)
theorem fnok95 : FnOk Tryz.prog 95 (fnOf Tryz.f95) := FnOk.of Tryz.func95 (by kernel_rfl) (by kernel_rfl)
theorem fnok96 : FnOk Tryz.prog 96 (fnOf Tryz.f96) := FnOk.of Tryz.func96 (by kernel_rfl) (by kernel_rfl)
theorem fnok97 : FnOk Tryz.prog 97 (fnOf Tryz.f97) := FnOk.of Tryz.func97 (by kernel_rfl) (by kernel_rfl)
theorem fnok98 : FnOk Tryz.prog 98 (fnOf Tryz.f98) := FnOk.of Tryz.func98 (by kernel_rfl) (by kernel_rfl)
theorem fnok99 : FnOk Tryz.prog 99 (fnOf Tryz.f99) := FnOk.of Tryz.func99 (by kernel_rfl) (by kernel_rfl)
theorem fnok100 : FnOk Tryz.prog 100 (fnOf Tryz.f100) := FnOk.of Tryz.func100 (by kernel_rfl) (by kernel_rfl)
theorem fnok101 : FnOk Tryz.prog 101 (fnOf Tryz.f101) := FnOk.of Tryz.func101 (by kernel_rfl) (by kernel_rfl)
theorem fnok102 : FnOk Tryz.prog 102 (fnOf Tryz.f102) := FnOk.of Tryz.func102 (by kernel_rfl) (by kernel_rfl)
theorem fnok103 : FnOk Tryz.prog 103 (fnOf Tryz.f103) := FnOk.of Tryz.func103 (by kernel_rfl) (by kernel_rfl)
theorem fnok104 : FnOk Tryz.prog 104 (fnOf Tryz.f104) := FnOk.of Tryz.func104 (by kernel_rfl) (by kernel_rfl)
theorem fnok105 : FnOk Tryz.prog 105 (fnOf Tryz.f105) := FnOk.of Tryz.func105 (by kernel_rfl) (by kernel_rfl)
theorem fnok106 : FnOk Tryz.prog 106 (fnOf Tryz.f106) := FnOk.of Tryz.func106 (by kernel_rfl) (by kernel_rfl)
theorem fnok107 : FnOk Tryz.prog 107 (fnOf Tryz.f107) := FnOk.of Tryz.func107 (by kernel_rfl) (by kernel_rfl)
theorem fnok108 : FnOk Tryz.prog 108 (fnOf Tryz.f108) := FnOk.of Tryz.func108 (by kernel_rfl) (by kernel_rfl)
theorem fnok109 : FnOk Tryz.prog 109 (fnOf Tryz.f109) := FnOk.of Tryz.func109 (by kernel_rfl) (by kernel_rfl)
theorem fnok110 : FnOk Tryz.prog 110 (fnOf Tryz.f110) := FnOk.of Tryz.func110 (by kernel_rfl) (by kernel_rfl)
theorem fnok111 : FnOk Tryz.prog 111 (fnOf Tryz.f111) := FnOk.of Tryz.func111 (by kernel_rfl) (by kernel_rfl)
theorem fnok112 : FnOk Tryz.prog 112 (fnOf Tryz.f112) := FnOk.of Tryz.func112 (by kernel_rfl) (by kernel_rfl)
theorem fnok113 : FnOk Tryz.prog 113 (fnOf Tryz.f113) := FnOk.of Tryz.func113 (by kernel_rfl) (by kernel_rfl)
theorem fnok114 : FnOk Tryz.prog 114 (fnOf Tryz.f114) := FnOk.of Tryz.func114 (by kernel_rfl) (by kernel_rfl)
theorem fnok115 : FnOk Tryz.prog 115 (fnOf Tryz.f115) := FnOk.of Tryz.func115 (by kernel_rfl) (by kernel_rfl)
theorem fnok116 : FnOk Tryz.prog 116 (fnOf Tryz.f116) := FnOk.of Tryz.func116 (by kernel_rfl) (by kernel_rfl)
theorem fnok117 : FnOk Tryz.prog 117 (fnOf Tryz.f117) := FnOk.of Tryz.func117 (by kernel_rfl) (by kernel_rfl)
theorem fnok118 : FnOk Tryz.prog 118 (fnOf Tryz.f118) := FnOk.of Tryz.func118 (by kernel_rfl) (by kernel_rfl)
theorem fnok119 : FnOk Tryz.prog 119 (fnOf Tryz.f119) := FnOk.of Tryz.func119 (by kernel_rfl) (by kernel_rfl)
theorem fnok120 : FnOk Tryz.prog 120 (fnOf Tryz.f120) := FnOk.of Tryz.func120 (by kernel_rfl) (by kernel_rfl)
theorem fnok121 : FnOk Tryz.prog 121 (fnOf Tryz.f121) := FnOk.of Tryz.func121 (by kernel_rfl) (by kernel_rfl)
theorem fnok122 : FnOk Tryz.prog 122 (fnOf Tryz.f122) := FnOk.of Tryz.func122 (by kernel_rfl) (by kernel_rfl)
theorem fnok123 : FnOk Tryz.prog 123 (fnOf Tryz.f123) := FnOk.of Tryz.func123 (by kernel_rfl) (by kernel_rfl)
theorem fnok124 : FnOk Tryz.prog 124 (fnOf Tryz.f124) := FnOk.of Tryz.func124 (by kernel_rfl) (by kernel_rfl)
theorem fnok125 : FnOk Tryz.prog 125 (fnOf Tryz.f125) := FnOk.of Tryz.func125 (by kernel_rfl) (by kernel_rfl)
theorem fnok126 : FnOk Tryz.prog 126 (fnOf Tryz.f126) := FnOk.of Tryz.func126 (by kernel_rfl) (by kernel_rfl)
theorem fnok127 : FnOk Tryz.prog 127 (fnOf Tryz.f127) := FnOk.of Tryz.func127 (by kernel_rfl) (by kernel_rfl)
theorem fnok128 : FnOk Tryz.prog 128 (fnOf Tryz.f128) := FnOk.of Tryz.func128 (by kernel_rfl) (by kernel_rfl)
theorem fnok129 : FnOk Tryz.prog 129 (fnOf Tryz.f129) := FnOk.of Tryz.func129 (by kernel_rfl) (by kernel_rfl)
theorem fnok130 : FnOk Tryz.prog 130 (fnOf Tryz.f130) := FnOk.of Tryz.func130 (by kernel_rfl) (by kernel_rfl)
theorem fnok131 : FnOk Tryz.prog 131 (fnOf Tryz.f131) := FnOk.of Tryz.func131 (by kernel_rfl) (by kernel_rfl)
theorem fnok132 : FnOk Tryz.prog 132 (fnOf Tryz.f132) := FnOk.of Tryz.func132 (by kernel_rfl) (by kernel_rfl)
theorem fnok133 : FnOk Tryz.prog 133 (fnOf Tryz.f133) := FnOk.of Tryz.func133 (by kernel_rfl) (by kernel_rfl)
theorem fnok134 : FnOk Tryz.prog 134 (fnOf Tryz.f134) := FnOk.of Tryz.func134 (by kernel_rfl) (by kernel_rfl)
theorem fnok135 : FnOk Tryz.prog 135 (fnOf Tryz.f135) := FnOk.of Tryz.func135 (by kernel_rfl) (by kernel_rfl)
theorem fnok136 : FnOk Tryz.prog 136 (fnOf Tryz.f136) := FnOk.of Tryz.func136 (by kernel_rfl) (by kernel_rfl)
theorem fnok137 : FnOk Tryz.prog 137 (fnOf Tryz.f137) := FnOk.of Tryz.func137 (by kernel_rfl) (by kernel_rfl)
theorem fnok138 : FnOk Tryz.prog 138 (fnOf Tryz.f138) := FnOk.of Tryz.func138 (by kernel_rfl) (by kernel_rfl)
theorem fnok139 : FnOk Tryz.prog 139 (fnOf Tryz.f139) := FnOk.of Tryz.func139 (by kernel_rfl) (by kernel_rfl)
theorem fnok140 : FnOk Tryz.prog 140 (fnOf Tryz.f140) := FnOk.of Tryz.func140 (by kernel_rfl) (by kernel_rfl)
theorem fnok141 : FnOk Tryz.prog 141 (fnOf Tryz.f141) := FnOk.of Tryz.func141 (by kernel_rfl) (by kernel_rfl)
theorem fnok142 : FnOk Tryz.prog 142 (fnOf Tryz.f142) := FnOk.of Tryz.func142 (by kernel_rfl) (by kernel_rfl)
theorem fnok143 : FnOk Tryz.prog 143 (fnOf Tryz.f143) := FnOk.of Tryz.func143 (by kernel_rfl) (by kernel_rfl)
theorem fnok144 : FnOk Tryz.prog 144 (fnOf Tryz.f144) := FnOk.of Tryz.func144 (by kernel_rfl) (by kernel_rfl)
theorem fnok145 : FnOk Tryz.prog 145 (fnOf Tryz.f145) := FnOk.of Tryz.func145 (by kernel_rfl) (by kernel_rfl)
theorem fnok146 : FnOk Tryz.prog 146 (fnOf Tryz.f146) := FnOk.of Tryz.func146 (by kernel_rfl) (by kernel_rfl)
theorem fnok147 : FnOk Tryz.prog 147 (fnOf Tryz.f147) := FnOk.of Tryz.func147 (by kernel_rfl) (by kernel_rfl)
theorem fnok148 : FnOk Tryz.prog 148 (fnOf Tryz.f148) := FnOk.of Tryz.func148 (by kernel_rfl) (by kernel_rfl)
theorem fnok149 : FnOk Tryz.prog 149 (fnOf Tryz.f149) := FnOk.of Tryz.func149 (by kernel_rfl) (by kernel_rfl)
theorem fnok150 : FnOk Tryz.prog 150 (fnOf Tryz.f150) := FnOk.of Tryz.func150 (by kernel_rfl) (by kernel_rfl)
theorem fnok151 : FnOk Tryz.prog 151 (fnOf Tryz.f151) := FnOk.of Tryz.func151 (by kernel_rfl) (by kernel_rfl)
theorem fnok152 : FnOk Tryz.prog 152 (fnOf Tryz.f152) := FnOk.of Tryz.func152 (by kernel_rfl) (by kernel_rfl)
theorem fnok153 : FnOk Tryz.prog 153 (fnOf Tryz.f153) := FnOk.of Tryz.func153 (by kernel_rfl) (by kernel_rfl)
theorem fnok154 : FnOk Tryz.prog 154 (fnOf Tryz.f154) := FnOk.of Tryz.func154 (by kernel_rfl) (by kernel_rfl)
theorem fnok155 : FnOk Tryz.prog 155 (fnOf Tryz.f155) := FnOk.of Tryz.func155 (by kernel_rfl) (by kernel_rfl)
theorem fnok156 : FnOk Tryz.prog 156 (fnOf Tryz.f156) := FnOk.of Tryz.func156 (by kernel_rfl) (by kernel_rfl)
theorem fnok157 : FnOk Tryz.prog 157 (fnOf Tryz.f157) := FnOk.of Tryz.func157 (by kernel_rfl) (by kernel_rfl)
theorem fnok158 : FnOk Tryz.prog 158 (fnOf Tryz.f158) := FnOk.of Tryz.func158 (by kernel_rfl) (by kernel_rfl)
theorem fnok159 : FnOk Tryz.prog 159 (fnOf Tryz.f159) := FnOk.of Tryz.func159 (by kernel_rfl) (by kernel_rfl)
theorem fnok160 : FnOk Tryz.prog 160 (fnOf Tryz.f160) := FnOk.of Tryz.func160 (by kernel_rfl) (by kernel_rfl)
theorem fnok161 : FnOk Tryz.prog 161 (fnOf Tryz.f161) := FnOk.of Tryz.func161 (by kernel_rfl) (by kernel_rfl)
theorem fnok162 : FnOk Tryz.prog 162 (fnOf Tryz.f162) := FnOk.of Tryz.func162 (by kernel_rfl) (by kernel_rfl)
theorem fnok163 : FnOk Tryz.prog 163 (fnOf Tryz.f163) := FnOk.of Tryz.func163 (by kernel_rfl) (by kernel_rfl)
theorem fnok164 : FnOk Tryz.prog 164 (fnOf Tryz.f164) := FnOk.of Tryz.func164 (by kernel_rfl) (by kernel_rfl)
theorem fnok165 : FnOk Tryz.prog 165 (fnOf Tryz.f165) := FnOk.of Tryz.func165 (by kernel_rfl) (by kernel_rfl)
theorem fnok166 : FnOk Tryz.prog 166 (fnOf Tryz.f166) := FnOk.of Tryz.func166 (by kernel_rfl) (by kernel_rfl)
theorem fnok167 : FnOk Tryz.prog 167 (fnOf Tryz.f167) := FnOk.of Tryz.func167 (by kernel_rfl) (by kernel_rfl)
theorem fnok168 : FnOk Tryz.prog 168 (fnOf Tryz.f168) := FnOk.of Tryz.func168 (by kernel_rfl) (by kernel_rfl)
theorem fnok169 : FnOk Tryz.prog 169 (fnOf Tryz.f169) := FnOk.of Tryz.func169 (by kernel_rfl) (by kernel_rfl)
theorem fnok170 : FnOk Tryz.prog 170 (fnOf Tryz.f170) := FnOk.of Tryz.func170 (by kernel_rfl) (by kernel_rfl)
theorem fnok171 : FnOk Tryz.prog 171 (fnOf Tryz.f171) := FnOk.of Tryz.func171 (by kernel_rfl) (by kernel_rfl)
theorem fnok172 : FnOk Tryz.prog 172 (fnOf Tryz.f172) := FnOk.of Tryz.func172 (by kernel_rfl) (by kernel_rfl)
theorem fnok173 : FnOk Tryz.prog 173 (fnOf Tryz.f173) := FnOk.of Tryz.func173 (by kernel_rfl) (by kernel_rfl)
theorem fnok174 : FnOk Tryz.prog 174 (fnOf Tryz.f174) := FnOk.of Tryz.func174 (by kernel_rfl) (by kernel_rfl)
theorem fnok175 : FnOk Tryz.prog 175 (fnOf Tryz.f175) := FnOk.of Tryz.func175 (by kernel_rfl) (by kernel_rfl)
theorem fnok176 : FnOk Tryz.prog 176 (fnOf Tryz.f176) := FnOk.of Tryz.func176 (by kernel_rfl) (by kernel_rfl)
theorem fnok177 : FnOk Tryz.prog 177 (fnOf Tryz.f177) := FnOk.of Tryz.func177 (by kernel_rfl) (by kernel_rfl)
theorem fnok178 : FnOk Tryz.prog 178 (fnOf Tryz.f178) := FnOk.of Tryz.func178 (by kernel_rfl) (by kernel_rfl)
theorem fnok179 : FnOk Tryz.prog 179 (fnOf Tryz.f179) := FnOk.of Tryz.func179 (by kernel_rfl) (by kernel_rfl)
theorem fnok180 : FnOk Tryz.prog 180 (fnOf Tryz.f180) := FnOk.of Tryz.func180 (by kernel_rfl) (by kernel_rfl)
theorem fnok181 : FnOk Tryz.prog 181 (fnOf Tryz.f181) := FnOk.of Tryz.func181 (by kernel_rfl) (by kernel_rfl)
theorem fnok182 : FnOk Tryz.prog 182 (fnOf Tryz.f182) := FnOk.of Tryz.func182 (by kernel_rfl) (by kernel_rfl)
theorem fnok183 : FnOk Tryz.prog 183 (fnOf Tryz.f183) := FnOk.of Tryz.func183 (by kernel_rfl) (by kernel_rfl)
theorem fnok184 : FnOk Tryz.prog 184 (fnOf Tryz.f184) := FnOk.of Tryz.func184 (by kernel_rfl) (by kernel_rfl)
theorem fnok185 : FnOk Tryz.prog 185 (fnOf Tryz.f185) := FnOk.of Tryz.func185 (by kernel_rfl) (by kernel_rfl)
theorem fnok186 : FnOk Tryz.prog 186 (fnOf Tryz.f186) := FnOk.of Tryz.func186 (by kernel_rfl) (by kernel_rfl)
theorem fnok187 : FnOk Tryz.prog 187 (fnOf Tryz.f187) := FnOk.of Tryz.func187 (by kernel_rfl) (by kernel_rfl)
theorem fnok188 : FnOk Tryz.prog 188 (fnOf Tryz.f188) := FnOk.of Tryz.func188 (by kernel_rfl) (by kernel_rfl)
theorem fnok189 : FnOk Tryz.prog 189 (fnOf Tryz.f189) := FnOk.of Tryz.func189 (by kernel_rfl) (by kernel_rfl)
theorem fnok190 : FnOk Tryz.prog 190 (fnOf Tryz.f190) := FnOk.of Tryz.func190 (by kernel_rfl) (by kernel_rfl)
theorem fnok191 : FnOk Tryz.prog 191 (fnOf Tryz.f191) := FnOk.of Tryz.func191 (by kernel_rfl) (by kernel_rfl)
theorem fnok192 : FnOk Tryz.prog 192 (fnOf Tryz.f192) := FnOk.of Tryz.func192 (by kernel_rfl) (by kernel_rfl)
theorem fnok193 : FnOk Tryz.prog 193 (fnOf Tryz.f193) := FnOk.of Tryz.func193 (by kernel_rfl) (by kernel_rfl)
theorem fnok194 : FnOk Tryz.prog 194 (fnOf Tryz.f194) := FnOk.of Tryz.func194 (by kernel_rfl) (by kernel_rfl)
theorem fnok195 : FnOk Tryz.prog 195 (fnOf Tryz.f195) := FnOk.of Tryz.func195 (by kernel_rfl) (by kernel_rfl)
theorem fnok196 : FnOk Tryz.prog 196 (fnOf Tryz.f196) := FnOk.of Tryz.func196 (by kernel_rfl) (by kernel_rfl)
theorem fnok197 : FnOk Tryz.prog 197 (fnOf Tryz.f197) := FnOk.of Tryz.func197 (by kernel_rfl) (by kernel_rfl)
theorem fnok198 : FnOk Tryz.prog 198 (fnOf Tryz.f198) := FnOk.of Tryz.func198 (by kernel_rfl) (by kernel_rfl)
theorem fnok199 : FnOk Tryz.prog 199 (fnOf Tryz.f199) := FnOk.of Tryz.func199 (by kernel_rfl) (by kernel_rfl)
theorem fnok200 : FnOk Tryz.prog 200 (fnOf Tryz.f200) := FnOk.of Tryz.func200 (by kernel_rfl) (by kernel_rfl)
theorem fnok201 : FnOk Tryz.prog 201 (fnOf Tryz.f201) := FnOk.of Tryz.func201 (by kernel_rfl) (by kernel_rfl)
theorem fnok202 : FnOk Tryz.prog 202 (fnOf Tryz.f202) := FnOk.of Tryz.func202 (by kernel_rfl) (by kernel_rfl)
theorem fnok203 : FnOk Tryz.prog 203 (fnOf Tryz.f203) := FnOk.of Tryz.func203 (by kernel_rfl) (by kernel_rfl)
theorem fnok204 : FnOk Tryz.prog 204 (fnOf Tryz.f204) := FnOk.of Tryz.func204 (by kernel_rfl) (by kernel_rfl)
theorem fnok205 : FnOk Tryz.prog 205 (fnOf Tryz.f205) := FnOk.of Tryz.func205 (by kernel_rfl) (by kernel_rfl)
theorem fnok206 : FnOk Tryz.prog 206 (fnOf Tryz.f206) := FnOk.of Tryz.func206 (by kernel_rfl) (by kernel_rfl)
theorem fnok207 : FnOk Tryz.prog 207 (fnOf Tryz.f207) := FnOk.of Tryz.func207 (by kernel_rfl) (by kernel_rfl)
theorem fnok208 : FnOk Tryz.prog 208 (fnOf Tryz.f208) := FnOk.of Tryz.func208 (by kernel_rfl) (by kernel_rfl)
theorem fnok209 : FnOk Tryz.prog 209 (fnOf Tryz.f209) := FnOk.of Tryz.func209 (by kernel_rfl) (by kernel_rfl)
theorem fnok210 : FnOk Tryz.prog 210 (fnOf Tryz.f210) := FnOk.of Tryz.func210 (by kernel_rfl) (by kernel_rfl)
theorem fnok211 : FnOk Tryz.prog 211 (fnOf Tryz.f211) := FnOk.of Tryz.func211 (by kernel_rfl) (by kernel_rfl)
theorem fnok212 : FnOk Tryz.prog 212 (fnOf Tryz.f212) := FnOk.of Tryz.func212 (by kernel_rfl) (by kernel_rfl)
theorem fnok213 : FnOk Tryz.prog 213 (fnOf Tryz.f213) := FnOk.of Tryz.func213 (by kernel_rfl) (by kernel_rfl)
theorem fnok214 : FnOk Tryz.prog 214 (fnOf Tryz.f214) := FnOk.of Tryz.func214 (by kernel_rfl) (by kernel_rfl)
theorem fnok215 : FnOk Tryz.prog 215 (fnOf Tryz.f215) := FnOk.of Tryz.func215 (by kernel_rfl) (by kernel_rfl)
theorem fnok216 : FnOk Tryz.prog 216 (fnOf Tryz.f216) := FnOk.of Tryz.func216 (by kernel_rfl) (by kernel_rfl)
theorem fnok217 : FnOk Tryz.prog 217 (fnOf Tryz.f217) := FnOk.of Tryz.func217 (by kernel_rfl) (by kernel_rfl)
theorem fnok218 : FnOk Tryz.prog 218 (fnOf Tryz.f218) := FnOk.of Tryz.func218 (by kernel_rfl) (by kernel_rfl)
theorem fnok219 : FnOk Tryz.prog 219 (fnOf Tryz.f219) := FnOk.of Tryz.func219 (by kernel_rfl) (by kernel_rfl)
theorem fnok220 : FnOk Tryz.prog 220 (fnOf Tryz.f220) := FnOk.of Tryz.func220 (by kernel_rfl) (by kernel_rfl)
theorem fnok221 : FnOk Tryz.prog 221 (fnOf Tryz.f221) := FnOk.of Tryz.func221 (by kernel_rfl) (by kernel_rfl)
theorem fnok222 : FnOk Tryz.prog 222 (fnOf Tryz.f222) := FnOk.of Tryz.func222 (by kernel_rfl) (by kernel_rfl)
theorem fnok223 : FnOk Tryz.prog 223 (fnOf Tryz.f223) := FnOk.of Tryz.func223 (by kernel_rfl) (by kernel_rfl)
theorem fnok224 : FnOk Tryz.prog 224 (fnOf Tryz.f224) := FnOk.of Tryz.func224 (by kernel_rfl) (by kernel_rfl)
theorem fnok225 : FnOk Tryz.prog 225 (fnOf Tryz.f225) := FnOk.of Tryz.func225 (by kernel_rfl) (by kernel_rfl)
theorem fnok226 : FnOk Tryz.prog 226 (fnOf Tryz.f226) := FnOk.of Tryz.func226 (by kernel_rfl) (by kernel_rfl)
theorem fnok227 : FnOk Tryz.prog 227 (fnOf Tryz.f227) := FnOk.of Tryz.func227 (by kernel_rfl) (by kernel_rfl)
theorem fnok228 : FnOk Tryz.prog 228 (fnOf Tryz.f228) := FnOk.of Tryz.func228 (by kernel_rfl) (by kernel_rfl)
theorem fnok229 : FnOk Tryz.prog 229 (fnOf Tryz.f229) := FnOk.of Tryz.func229 (by kernel_rfl) (by kernel_rfl)
theorem fnok230 : FnOk Tryz.prog 230 (fnOf Tryz.f230) := FnOk.of Tryz.func230 (by kernel_rfl) (by kernel_rfl)
theorem fnok231 : FnOk Tryz.prog 231 (fnOf Tryz.f231) := FnOk.of Tryz.func231 (by kernel_rfl) (by kernel_rfl)
theorem fnok232 : FnOk Tryz.prog 232 (fnOf Tryz.f232) := FnOk.of Tryz.func232 (by kernel_rfl) (by kernel_rfl)
theorem fnok233 : FnOk Tryz.prog 233 (fnOf Tryz.f233) := FnOk.of Tryz.func233 (by kernel_rfl) (by kernel_rfl)
theorem fnok234 : FnOk Tryz.prog 234 (fnOf Tryz.f234) := FnOk.of Tryz.func234 (by kernel_rfl) (by kernel_rfl)
theorem fnok235 : FnOk Tryz.prog 235 (fnOf Tryz.f235) := FnOk.of Tryz.func235 (by kernel_rfl) (by kernel_rfl)
theorem fnok236 : FnOk Tryz.prog 236 (fnOf Tryz.f236) := FnOk.of Tryz.func236 (by kernel_rfl) (by kernel_rfl)
theorem fnok237 : FnOk Tryz.prog 237 (fnOf Tryz.f237) := FnOk.of Tryz.func237 (by kernel_rfl) (by kernel_rfl)
theorem fnok238 : FnOk Tryz.prog 238 (fnOf Tryz.f238) := FnOk.of Tryz.func238 (by kernel_rfl) (by kernel_rfl)
theorem fnok239 : FnOk Tryz.prog 239 (fnOf Tryz.f239) := FnOk.of Tryz.func239 (by kernel_rfl) (by kernel_rfl)
theorem fnok240 : FnOk Tryz.prog 240 (fnOf Tryz.f240) := FnOk.of Tryz.func240 (by kernel_rfl) (by kernel_rfl)
theorem fnok241 : FnOk Tryz.prog 241 (fnOf Tryz.f241) := FnOk.of Tryz.func241 (by kernel_rfl) (by kernel_rfl)
theorem fnok242 : FnOk Tryz.prog 242 (fnOf Tryz.f242) := FnOk.of Tryz.func242 (by kernel_rfl) (by kernel_rfl)
theorem fnok243 : FnOk Tryz.prog 243 (fnOf Tryz.f243) := FnOk.of Tryz.func243 (by kernel_rfl) (by kernel_rfl)
theorem fnok244 : FnOk Tryz.prog 244 (fnOf Tryz.f244) := FnOk.of Tryz.func244 (by kernel_rfl) (by kernel_rfl)
theorem fnok245 : FnOk Tryz.prog 245 (fnOf Tryz.f245) := FnOk.of Tryz.func245 (by kernel_rfl) (by kernel_rfl)
theorem fnok246 : FnOk Tryz.prog 246 (fnOf Tryz.f246) := FnOk.of Tryz.func246 (by kernel_rfl) (by kernel_rfl)
theorem fnok247 : FnOk Tryz.prog 247 (fnOf Tryz.f247) := FnOk.of Tryz.func247 (by kernel_rfl) (by kernel_rfl)
theorem fnok248 : FnOk Tryz.prog 248 (fnOf Tryz.f248) := FnOk.of Tryz.func248 (by kernel_rfl) (by kernel_rfl)
theorem fnok249 : FnOk Tryz.prog 249 (fnOf Tryz.f249) := FnOk.of Tryz.func249 (by kernel_rfl) (by kernel_rfl)
theorem fnok250 : FnOk Tryz.prog 250 (fnOf Tryz.f250) := FnOk.of Tryz.func250 (by kernel_rfl) (by kernel_rfl)
theorem fnok251 : FnOk Tryz.prog 251 (fnOf Tryz.f251) := FnOk.of Tryz.func251 (by kernel_rfl) (by kernel_rfl)
theorem fnok252 : FnOk Tryz.prog 252 (fnOf Tryz.f252) := FnOk.of Tryz.func252 (by kernel_rfl) (by kernel_rfl)
theorem fnok253 : FnOk Tryz.prog 253 (fnOf Tryz.f253) := FnOk.of Tryz.func253 (by kernel_rfl) (by kernel_rfl)
theorem fnok254 : FnOk Tryz.prog 254 (fnOf Tryz.f254) := FnOk.of Tryz.func254 (by kernel_rfl) (by kernel_rfl)
theorem fnok255 : FnOk Tryz.prog 255 (fnOf Tryz.f255) := FnOk.of Tryz.func255 (by kernel_rfl) (by kernel_rfl)
theorem fnok256 : FnOk Tryz.prog 256 (fnOf Tryz.f256) := FnOk.of Tryz.func256 (by kernel_rfl) (by kernel_rfl)
theorem fnok257 : FnOk Tryz.prog 257 (fnOf Tryz.f257) := FnOk.of Tryz.func257 (by kernel_rfl) (by kernel_rfl)
theorem fnok258 : FnOk Tryz.prog 258 (fnOf Tryz.f258) := FnOk.of Tryz.func258 (by kernel_rfl) (by kernel_rfl)
theorem fnok259 : FnOk Tryz.prog 259 (fnOf Tryz.f259) := FnOk.of Tryz.func259 (by kernel_rfl) (by kernel_rfl)
theorem fnok261 : FnOk Tryz.prog 261 (fnOf Tryz.f261) := FnOk.of Tryz.func261 (by kernel_rfl) (by kernel_rfl)
theorem fnok262 : FnOk Tryz.prog 262 (fnOf Tryz.f262) := FnOk.of Tryz.func262 (by kernel_rfl) (by kernel_rfl)
theorem fnok263 : FnOk Tryz.prog 263 (fnOf Tryz.f263) := FnOk.of Tryz.func263 (by kernel_rfl) (by kernel_rfl)
theorem fnok264 : FnOk Tryz.prog 264 (fnOf Tryz.f264) := FnOk.of Tryz.func264 (by kernel_rfl) (by kernel_rfl)
theorem fnok265 : FnOk Tryz.prog 265 (fnOf Tryz.f265) := FnOk.of Tryz.func265 (by kernel_rfl) (by kernel_rfl)
theorem fnok266 : FnOk Tryz.prog 266 (fnOf Tryz.f266) := FnOk.of Tryz.func266 (by kernel_rfl) (by kernel_rfl)
theorem fnok267 : FnOk Tryz.prog 267 (fnOf Tryz.f267) := FnOk.of Tryz.func267 (by kernel_rfl) (by kernel_rfl)
theorem fnok268 : FnOk Tryz.prog 268 (fnOf Tryz.f268) := FnOk.of Tryz.func268 (by kernel_rfl) (by kernel_rfl)
theorem fnok269 : FnOk Tryz.prog 269 (fnOf Tryz.f269) := FnOk.of Tryz.func269 (by kernel_rfl) (by kernel_rfl)
theorem fnok270 : FnOk Tryz.prog 270 (fnOf Tryz.f270) := FnOk.of Tryz.func270 (by kernel_rfl) (by kernel_rfl)
theorem fnok271 : FnOk Tryz.prog 271 (fnOf Tryz.f271) := FnOk.of Tryz.func271 (by kernel_rfl) (by kernel_rfl)
theorem fnok272 : FnOk Tryz.prog 272 (fnOf Tryz.f272) := FnOk.of Tryz.func272 (by kernel_rfl) (by kernel_rfl)
theorem fnok273 : FnOk Tryz.prog 273 (fnOf Tryz.f273) := FnOk.of Tryz.func273 (by kernel_rfl) (by kernel_rfl)
theorem fnok274 : FnOk Tryz.prog 274 (fnOf Tryz.f274) := FnOk.of Tryz.func274 (by kernel_rfl) (by kernel_rfl)
theorem fnok275 : FnOk Tryz.prog 275 (fnOf Tryz.f275) := FnOk.of Tryz.func275 (by kernel_rfl) (by kernel_rfl)
theorem fnok276 : FnOk Tryz.prog 276 (fnOf Tryz.f276) := FnOk.of Tryz.func276 (by kernel_rfl) (by kernel_rfl)
theorem fnok277 : FnOk Tryz.prog 277 (fnOf Tryz.f277) := FnOk.of Tryz.func277 (by kernel_rfl) (by kernel_rfl)
theorem fnok278 : FnOk Tryz.prog 278 (fnOf Tryz.f278) := FnOk.of Tryz.func278 (by kernel_rfl) (by kernel_rfl)
theorem fnok279 : FnOk Tryz.prog 279 (fnOf Tryz.f279) := FnOk.of Tryz.func279 (by kernel_rfl) (by kernel_rfl)
theorem fnok281 : FnOk Tryz.prog 281 (fnOf Tryz.f281) := FnOk.of Tryz.func281 (by kernel_rfl) (by kernel_rfl)
theorem fnok282 : FnOk Tryz.prog 282 (fnOf Tryz.f282) := FnOk.of Tryz.func282 (by kernel_rfl) (by kernel_rfl)
theorem fnok284 : FnOk Tryz.prog 284 (fnOf Tryz.f284) := FnOk.of Tryz.func284 (by kernel_rfl) (by kernel_rfl)
theorem fnok286 : FnOk Tryz.prog 286 (fnOf Tryz.f286) := FnOk.of Tryz.func286 (by kernel_rfl) (by kernel_rfl)
theorem fnok288 : FnOk Tryz.prog 288 (fnOf Tryz.f288) := FnOk.of Tryz.func288 (by kernel_rfl) (by kernel_rfl)
theorem fnok289 : FnOk Tryz.prog 289 (fnOf Tryz.f289) := FnOk.of Tryz.func289 (by kernel_rfl) (by kernel_rfl)
theorem fnok290 : FnOk Tryz.prog 290 (fnOf Tryz.f290) := FnOk.of Tryz.func290 (by kernel_rfl) (by kernel_rfl)
theorem fnok291 : FnOk Tryz.prog 291 (fnOf Tryz.f291) := FnOk.of Tryz.func291 (by kernel_rfl) (by kernel_rfl)
theorem fnok292 : FnOk Tryz.prog 292 (fnOf Tryz.f292) := FnOk.of Tryz.func292 (by kernel_rfl) (by kernel_rfl)
theorem fnok293 : FnOk Tryz.prog 293 (fnOf Tryz.f293) := FnOk.of Tryz.func293 (by kernel_rfl) (by kernel_rfl)
theorem fnok294 : FnOk Tryz.prog 294 (fnOf Tryz.f294) := FnOk.of Tryz.func294 (by kernel_rfl) (by kernel_rfl)
theorem fnok295 : FnOk Tryz.prog 295 (fnOf Tryz.f295) := FnOk.of Tryz.func295 (by kernel_rfl) (by kernel_rfl)
theorem fnok296 : FnOk Tryz.prog 296 (fnOf Tryz.f296) := FnOk.of Tryz.func296 (by kernel_rfl) (by kernel_rfl)
theorem fnok297 : FnOk Tryz.prog 297 (fnOf Tryz.f297) := FnOk.of Tryz.func297 (by kernel_rfl) (by kernel_rfl)
theorem fnok298 : FnOk Tryz.prog 298 (fnOf Tryz.f298) := FnOk.of Tryz.func298 (by kernel_rfl) (by kernel_rfl)
theorem fnok299 : FnOk Tryz.prog 299 (fnOf Tryz.f299) := FnOk.of Tryz.func299 (by kernel_rfl) (by kernel_rfl)
theorem fnok300 : FnOk Tryz.prog 300 (fnOf Tryz.f300) := FnOk.of Tryz.func300 (by kernel_rfl) (by kernel_rfl)
theorem fnok301 : FnOk Tryz.prog 301 (fnOf Tryz.f301) := FnOk.of Tryz.func301 (by kernel_rfl) (by kernel_rfl)
theorem fnok302 : FnOk Tryz.prog 302 (fnOf Tryz.f302) := FnOk.of Tryz.func302 (by kernel_rfl) (by kernel_rfl)
theorem fnok303 : FnOk Tryz.prog 303 (fnOf Tryz.f303) := FnOk.of Tryz.func303 (by kernel_rfl) (by kernel_rfl)
theorem fnok304 : FnOk Tryz.prog 304 (fnOf Tryz.f304) := FnOk.of Tryz.func304 (by kernel_rfl) (by kernel_rfl)
theorem fnok305 : FnOk Tryz.prog 305 (fnOf Tryz.f305) := FnOk.of Tryz.func305 (by kernel_rfl) (by kernel_rfl)
theorem fnok306 : FnOk Tryz.prog 306 (fnOf Tryz.f306) := FnOk.of Tryz.func306 (by kernel_rfl) (by kernel_rfl)
theorem fnok307 : FnOk Tryz.prog 307 (fnOf Tryz.f307) := FnOk.of Tryz.func307 (by kernel_rfl) (by kernel_rfl)
theorem fnok308 : FnOk Tryz.prog 308 (fnOf Tryz.f308) := FnOk.of Tryz.func308 (by kernel_rfl) (by kernel_rfl)
theorem fnok309 : FnOk Tryz.prog 309 (fnOf Tryz.f309) := FnOk.of Tryz.func309 (by kernel_rfl) (by kernel_rfl)
theorem fnok310 : FnOk Tryz.prog 310 (fnOf Tryz.f310) := FnOk.of Tryz.func310 (by kernel_rfl) (by kernel_rfl)
theorem fnok311 : FnOk Tryz.prog 311 (fnOf Tryz.f311) := FnOk.of Tryz.func311 (by kernel_rfl) (by kernel_rfl)
theorem fnok312 : FnOk Tryz.prog 312 (fnOf Tryz.f312) := FnOk.of Tryz.func312 (by kernel_rfl) (by kernel_rfl)
theorem fnok313 : FnOk Tryz.prog 313 (fnOf Tryz.f313) := FnOk.of Tryz.func313 (by kernel_rfl) (by kernel_rfl)
theorem fnok314 : FnOk Tryz.prog 314 (fnOf Tryz.f314) := FnOk.of Tryz.func314 (by kernel_rfl) (by kernel_rfl)
theorem fnok315 : FnOk Tryz.prog 315 (fnOf Tryz.f315) := FnOk.of Tryz.func315 (by kernel_rfl) (by kernel_rfl)
theorem fnok345 : FnOk Tryz.prog 345 (fnOf Tryz.f345) := FnOk.of Tryz.func345 (by kernel_rfl) (by kernel_rfl)
noncomputable def fnTab : BT Ax.Fn := (.node 157 (.node 79 (.node 40 (.node 21 (.node 11 (.node 6 (.node 4 (.node 3 (.leaf 2 (fnOf Tryz.f2)) (.leaf 3 (fnOf Tryz.f3))) (.node 5 (.leaf 4 (fnOf Tryz.f4)) (.leaf 5 (fnOf Tryz.f5)))) (.node 8 (.node 7 (.leaf 6 (fnOf Tryz.f6)) (.leaf 7 (fnOf Tryz.f7))) (.node 9 (.leaf 8 (fnOf Tryz.f8)) (.node 10 (.leaf 9 (fnOf Tryz.f9)) (.leaf 10 (fnOf Tryz.f10)))))) (.node 16 (.node 13 (.node 12 (.leaf 11 (fnOf Tryz.f11)) (.leaf 12 (fnOf Tryz.f12))) (.node 14 (.leaf 13 (fnOf Tryz.f13)) (.node 15 (.leaf 14 (fnOf Tryz.f14)) (.leaf 15 (fnOf Tryz.f15))))) (.node 18 (.node 17 (.leaf 16 (fnOf Tryz.f16)) (.leaf 17 (fnOf Tryz.f17))) (.node 19 (.leaf 18 (fnOf Tryz.f18)) (.node 20 (.leaf 19 (fnOf Tryz.f19)) (.leaf 20 (fnOf Tryz.f20))))))) (.node 30 (.node 25 (.node 23 (.node 22 (.leaf 21 (fnOf Tryz.f21)) (.leaf 22 (fnOf Tryz.f22))) (.node 24 (.leaf 23 (fnOf Tryz.f23)) (.leaf 24 (fnOf Tryz.f24)))) (.node 27 (.node 26 (.leaf 25 (fnOf Tryz.f25)) (.leaf 26 (fnOf Tryz.f26))) (.node 28 (.leaf 27 (fnOf Tryz.f27)) (.node 29 (.leaf 28 (fnOf Tryz.f28)) (.leaf 29 (fnOf Tryz.f29)))))) (.node 35 (.node 32 (.node 31 (.leaf 30 (fnOf Tryz.f30)) (.leaf 31 (fnOf Tryz.f31))) (.node 33 (.leaf 32 (fnOf Tryz.f32)) (.node 34 (.leaf 33 (fnOf Tryz.f33)) (.leaf 34 (fnOf Tryz.f34))))) (.node 37 (.node 36 (.leaf 35 (fnOf Tryz.f35)) (.leaf 36 (fnOf Tryz.f36))) (.node 38 (.leaf 37 (fnOf Tryz.f37)) (.node 39 (.leaf 38 (fnOf Tryz.f38)) (.leaf 39 (fnOf Tryz.f39)))))))) (.node 59 (.node 49 (.node 44 (.node 42 (.node 41 (.leaf 40 (fnOf Tryz.f40)) (.leaf 41 (fnOf Tryz.f41))) (.node 43 (.leaf 42 (fnOf Tryz.f42)) (.leaf 43 (fnOf Tryz.f43)))) (.node 46 (.node 45 (.leaf 44 (fnOf Tryz.f44)) (.leaf 45 (fnOf Tryz.f45))) (.node 47 (.leaf 46 (fnOf Tryz.f46)) (.node 48 (.leaf 47 (fnOf Tryz.f47)) (.leaf 48 (fnOf Tryz.f48)))))) (.node 54 (.node 51 (.node 50 (.leaf 49 (fnOf Tryz.f49)) (.leaf 50 (fnOf Tryz.f50))) (.node 52 (.leaf 51 (fnOf Tryz.f51)) (.node 53 (.leaf 52 (fnOf Tryz.f52)) (.leaf 53 (fnOf Tryz.f53))))) (.node 56 (.node 55 (.leaf 54 (fnOf Tryz.f54)) (.leaf 55 (fnOf Tryz.f55))) (.node 57 (.leaf 56 (fnOf Tryz.f56)) (.node 58 (.leaf 57 (fnOf Tryz.f57)) (.leaf 58 (fnOf Tryz.f58))))))) (.node 69 (.node 64 (.node 61 (.node 60 (.leaf 59 (fnOf Tryz.f59)) (.leaf 60 (fnOf Tryz.f60))) (.node 62 (.leaf 61 (fnOf Tryz.f61)) (.node 63 (.leaf 62 (fnOf Tryz.f62)) (.leaf 63 (fnOf Tryz.f63))))) (.node 66 (.node 65 (.leaf 64 (fnOf Tryz.f64)) (.leaf 65 (fnOf Tryz.f65))) (.node 67 (.leaf 66 (fnOf Tryz.f66)) (.node 68 (.leaf 67 (fnOf Tryz.f67)) (.leaf 68 (fnOf Tryz.f68)))))) (.node 74 (.node 71 (.node 70 (.leaf 69 (fnOf Tryz.f69)) (.leaf 70 (fnOf Tryz.f70))) (.node 72 (.leaf 71 (fnOf Tryz.f71)) (.node 73 (.leaf 72 (fnOf Tryz.f72)) (.leaf 73 (fnOf Tryz.f73))))) (.node 76 (.node 75 (.leaf 74 (fnOf Tryz.f74)) (.leaf 75 (fnOf Tryz.f75))) (.node 77 (.leaf 76 (fnOf Tryz.f76)) (.node 78 (.leaf 77 (fnOf Tryz.f77)) (.leaf 78 (fnOf Tryz.f78))))))))) (.node 118 (.node 98 (.node 88 (.node 83 (.node 81 (.node 80 (.leaf 79 (fnOf Tryz.f79)) (.leaf 80 (fnOf Tryz.f80))) (.node 82 (.leaf 81 (fnOf Tryz.f81)) (.leaf 82 (fnOf Tryz.f82)))) (.node 85 (.node 84 (.leaf 83 (fnOf Tryz.f83)) (.leaf 84 (fnOf Tryz.f84))) (.node 86 (.leaf 85 (fnOf Tryz.f85)) (.node 87 (.leaf 86 (fnOf Tryz.f86)) (.leaf 87 (fnOf Tryz.f87)))))) (.node 93 (.node 90 (.node 89 (.leaf 88 (fnOf Tryz.f88)) (.leaf 89 (fnOf Tryz.f89))) (.node 91 (.leaf 90 (fnOf Tryz.f90)) (.node 92 (.leaf 91 (fnOf Tryz.f91)) (.leaf 92 (fnOf Tryz.f92))))) (.node 95 (.node 94 (.leaf 93 (fnOf Tryz.f93)) (.leaf 94 (fnOf Tryz.f94))) (.node 96 (.leaf 95 (fnOf Tryz.f95)) (.node 97 (.leaf 96 (fnOf Tryz.f96)) (.leaf 97 (fnOf Tryz.f97))))))) (.node 108 (.node 103 (.node 100 (.node 99 (.leaf 98 (fnOf Tryz.f98)) (.leaf 99 (fnOf Tryz.f99))) (.node 101 (.leaf 100 (fnOf Tryz.f100)) (.node 102 (.leaf 101 (fnOf Tryz.f101)) (.leaf 102 (fnOf Tryz.f102))))) (.node 105 (.node 104 (.leaf 103 (fnOf Tryz.f103)) (.leaf 104 (fnOf Tryz.f104))) (.node 106 (.leaf 105 (fnOf Tryz.f105)) (.node 107 (.leaf 106 (fnOf Tryz.f106)) (.leaf 107 (fnOf Tryz.f107)))))) (.node 113 (.node 110 (.node 109 (.leaf 108 (fnOf Tryz.f108)) (.leaf 109 (fnOf Tryz.f109))) (.node 111 (.leaf 110 (fnOf Tryz.f110)) (.node 112 (.leaf 111 (fnOf Tryz.f111)) (.leaf 112 (fnOf Tryz.f112))))) (.node 115 (.node 114 (.leaf 113 (fnOf Tryz.f113)) (.leaf 114 (fnOf Tryz.f114))) (.node 116 (.leaf 115 (fnOf Tryz.f115)) (.node 117 (.leaf 116 (fnOf Tryz.f116)) (.leaf 117 (fnOf Tryz.f117)))))))) (.node 137 (.node 127 (.node 122 (.node 120 (.node 119 (.leaf 118 (fnOf Tryz.f118)) (.leaf 119 (fnOf Tryz.f119))) (.node 121 (.leaf 120 (fnOf Tryz.f120)) (.leaf 121 (fnOf Tryz.f121)))) (.node 124 (.node 123 (.leaf 122 (fnOf Tryz.f122)) (.leaf 123 (fnOf Tryz.f123))) (.node 125 (.leaf 124 (fnOf Tryz.f124)) (.node 126 (.leaf 125 (fnOf Tryz.f125)) (.leaf 126 (fnOf Tryz.f126)))))) (.node 132 (.node 129 (.node 128 (.leaf 127 (fnOf Tryz.f127)) (.leaf 128 (fnOf Tryz.f128))) (.node 130 (.leaf 129 (fnOf Tryz.f129)) (.node 131 (.leaf 130 (fnOf Tryz.f130)) (.leaf 131 (fnOf Tryz.f131))))) (.node 134 (.node 133 (.leaf 132 (fnOf Tryz.f132)) (.leaf 133 (fnOf Tryz.f133))) (.node 135 (.leaf 134 (fnOf Tryz.f134)) (.node 136 (.leaf 135 (fnOf Tryz.f135)) (.leaf 136 (fnOf Tryz.f136))))))) (.node 147 (.node 142 (.node 139 (.node 138 (.leaf 137 (fnOf Tryz.f137)) (.leaf 138 (fnOf Tryz.f138))) (.node 140 (.leaf 139 (fnOf Tryz.f139)) (.node 141 (.leaf 140 (fnOf Tryz.f140)) (.leaf 141 (fnOf Tryz.f141))))) (.node 144 (.node 143 (.leaf 142 (fnOf Tryz.f142)) (.leaf 143 (fnOf Tryz.f143))) (.node 145 (.leaf 144 (fnOf Tryz.f144)) (.node 146 (.leaf 145 (fnOf Tryz.f145)) (.leaf 146 (fnOf Tryz.f146)))))) (.node 152 (.node 149 (.node 148 (.leaf 147 (fnOf Tryz.f147)) (.leaf 148 (fnOf Tryz.f148))) (.node 150 (.leaf 149 (fnOf Tryz.f149)) (.node 151 (.leaf 150 (fnOf Tryz.f150)) (.leaf 151 (fnOf Tryz.f151))))) (.node 154 (.node 153 (.leaf 152 (fnOf Tryz.f152)) (.leaf 153 (fnOf Tryz.f153))) (.node 155 (.leaf 154 (fnOf Tryz.f154)) (.node 156 (.leaf 155 (fnOf Tryz.f155)) (.leaf 156 (fnOf Tryz.f156)))))))))) (.node 234 (.node 195 (.node 176 (.node 166 (.node 161 (.node 159 (.node 158 (.leaf 157 (fnOf Tryz.f157)) (.leaf 158 (fnOf Tryz.f158))) (.node 160 (.leaf 159 (fnOf Tryz.f159)) (.leaf 160 (fnOf Tryz.f160)))) (.node 163 (.node 162 (.leaf 161 (fnOf Tryz.f161)) (.leaf 162 (fnOf Tryz.f162))) (.node 164 (.leaf 163 (fnOf Tryz.f163)) (.node 165 (.leaf 164 (fnOf Tryz.f164)) (.leaf 165 (fnOf Tryz.f165)))))) (.node 171 (.node 168 (.node 167 (.leaf 166 (fnOf Tryz.f166)) (.leaf 167 (fnOf Tryz.f167))) (.node 169 (.leaf 168 (fnOf Tryz.f168)) (.node 170 (.leaf 169 (fnOf Tryz.f169)) (.leaf 170 (fnOf Tryz.f170))))) (.node 173 (.node 172 (.leaf 171 (fnOf Tryz.f171)) (.leaf 172 (fnOf Tryz.f172))) (.node 174 (.leaf 173 (fnOf Tryz.f173)) (.node 175 (.leaf 174 (fnOf Tryz.f174)) (.leaf 175 (fnOf Tryz.f175))))))) (.node 185 (.node 180 (.node 178 (.node 177 (.leaf 176 (fnOf Tryz.f176)) (.leaf 177 (fnOf Tryz.f177))) (.node 179 (.leaf 178 (fnOf Tryz.f178)) (.leaf 179 (fnOf Tryz.f179)))) (.node 182 (.node 181 (.leaf 180 (fnOf Tryz.f180)) (.leaf 181 (fnOf Tryz.f181))) (.node 183 (.leaf 182 (fnOf Tryz.f182)) (.node 184 (.leaf 183 (fnOf Tryz.f183)) (.leaf 184 (fnOf Tryz.f184)))))) (.node 190 (.node 187 (.node 186 (.leaf 185 (fnOf Tryz.f185)) (.leaf 186 (fnOf Tryz.f186))) (.node 188 (.leaf 187 (fnOf Tryz.f187)) (.node 189 (.leaf 188 (fnOf Tryz.f188)) (.leaf 189 (fnOf Tryz.f189))))) (.node 192 (.node 191 (.leaf 190 (fnOf Tryz.f190)) (.leaf 191 (fnOf Tryz.f191))) (.node 193 (.leaf 192 (fnOf Tryz.f192)) (.node 194 (.leaf 193 (fnOf Tryz.f193)) (.leaf 194 (fnOf Tryz.f194)))))))) (.node 214 (.node 204 (.node 199 (.node 197 (.node 196 (.leaf 195 (fnOf Tryz.f195)) (.leaf 196 (fnOf Tryz.f196))) (.node 198 (.leaf 197 (fnOf Tryz.f197)) (.leaf 198 (fnOf Tryz.f198)))) (.node 201 (.node 200 (.leaf 199 (fnOf Tryz.f199)) (.leaf 200 (fnOf Tryz.f200))) (.node 202 (.leaf 201 (fnOf Tryz.f201)) (.node 203 (.leaf 202 (fnOf Tryz.f202)) (.leaf 203 (fnOf Tryz.f203)))))) (.node 209 (.node 206 (.node 205 (.leaf 204 (fnOf Tryz.f204)) (.leaf 205 (fnOf Tryz.f205))) (.node 207 (.leaf 206 (fnOf Tryz.f206)) (.node 208 (.leaf 207 (fnOf Tryz.f207)) (.leaf 208 (fnOf Tryz.f208))))) (.node 211 (.node 210 (.leaf 209 (fnOf Tryz.f209)) (.leaf 210 (fnOf Tryz.f210))) (.node 212 (.leaf 211 (fnOf Tryz.f211)) (.node 213 (.leaf 212 (fnOf Tryz.f212)) (.leaf 213 (fnOf Tryz.f213))))))) (.node 224 (.node 219 (.node 216 (.node 215 (.leaf 214 (fnOf Tryz.f214)) (.leaf 215 (fnOf Tryz.f215))) (.node 217 (.leaf 216 (fnOf Tryz.f216)) (.node 218 (.leaf 217 (fnOf Tryz.f217)) (.leaf 218 (fnOf Tryz.f218))))) (.node 221 (.node 220 (.leaf 219 (fnOf Tryz.f219)) (.leaf 220 (fnOf Tryz.f220))) (.node 222 (.leaf 221 (fnOf Tryz.f221)) (.node 223 (.leaf 222 (fnOf Tryz.f222)) (.leaf 223 (fnOf Tryz.f223)))))) (.node 229 (.node 226 (.node 225 (.leaf 224 (fnOf Tryz.f224)) (.leaf 225 (fnOf Tryz.f225))) (.node 227 (.leaf 226 (fnOf Tryz.f226)) (.node 228 (.leaf 227 (fnOf Tryz.f227)) (.leaf 228 (fnOf Tryz.f228))))) (.node 231 (.node 230 (.leaf 229 (fnOf Tryz.f229)) (.leaf 230 (fnOf Tryz.f230))) (.node 232 (.leaf 231 (fnOf Tryz.f231)) (.node 233 (.leaf 232 (fnOf Tryz.f232)) (.leaf 233 (fnOf Tryz.f233))))))))) (.node 274 (.node 253 (.node 243 (.node 238 (.node 236 (.node 235 (.leaf 234 (fnOf Tryz.f234)) (.leaf 235 (fnOf Tryz.f235))) (.node 237 (.leaf 236 (fnOf Tryz.f236)) (.leaf 237 (fnOf Tryz.f237)))) (.node 240 (.node 239 (.leaf 238 (fnOf Tryz.f238)) (.leaf 239 (fnOf Tryz.f239))) (.node 241 (.leaf 240 (fnOf Tryz.f240)) (.node 242 (.leaf 241 (fnOf Tryz.f241)) (.leaf 242 (fnOf Tryz.f242)))))) (.node 248 (.node 245 (.node 244 (.leaf 243 (fnOf Tryz.f243)) (.leaf 244 (fnOf Tryz.f244))) (.node 246 (.leaf 245 (fnOf Tryz.f245)) (.node 247 (.leaf 246 (fnOf Tryz.f246)) (.leaf 247 (fnOf Tryz.f247))))) (.node 250 (.node 249 (.leaf 248 (fnOf Tryz.f248)) (.leaf 249 (fnOf Tryz.f249))) (.node 251 (.leaf 250 (fnOf Tryz.f250)) (.node 252 (.leaf 251 (fnOf Tryz.f251)) (.leaf 252 (fnOf Tryz.f252))))))) (.node 264 (.node 258 (.node 255 (.node 254 (.leaf 253 (fnOf Tryz.f253)) (.leaf 254 (fnOf Tryz.f254))) (.node 256 (.leaf 255 (fnOf Tryz.f255)) (.node 257 (.leaf 256 (fnOf Tryz.f256)) (.leaf 257 (fnOf Tryz.f257))))) (.node 261 (.node 259 (.leaf 258 (fnOf Tryz.f258)) (.leaf 259 (fnOf Tryz.f259))) (.node 262 (.leaf 261 (fnOf Tryz.f261)) (.node 263 (.leaf 262 (fnOf Tryz.f262)) (.leaf 263 (fnOf Tryz.f263)))))) (.node 269 (.node 266 (.node 265 (.leaf 264 (fnOf Tryz.f264)) (.leaf 265 (fnOf Tryz.f265))) (.node 267 (.leaf 266 (fnOf Tryz.f266)) (.node 268 (.leaf 267 (fnOf Tryz.f267)) (.leaf 268 (fnOf Tryz.f268))))) (.node 271 (.node 270 (.leaf 269 (fnOf Tryz.f269)) (.leaf 270 (fnOf Tryz.f270))) (.node 272 (.leaf 271 (fnOf Tryz.f271)) (.node 273 (.leaf 272 (fnOf Tryz.f272)) (.leaf 273 (fnOf Tryz.f273)))))))) (.node 297 (.node 286 (.node 278 (.node 276 (.node 275 (.leaf 274 (fnOf Tryz.f274)) (.leaf 275 (fnOf Tryz.f275))) (.node 277 (.leaf 276 (fnOf Tryz.f276)) (.leaf 277 (fnOf Tryz.f277)))) (.node 281 (.node 279 (.leaf 278 (fnOf Tryz.f278)) (.leaf 279 (fnOf Tryz.f279))) (.node 282 (.leaf 281 (fnOf Tryz.f281)) (.node 284 (.leaf 282 (fnOf Tryz.f282)) (.leaf 284 (fnOf Tryz.f284)))))) (.node 292 (.node 289 (.node 288 (.leaf 286 (fnOf Tryz.f286)) (.leaf 288 (fnOf Tryz.f288))) (.node 290 (.leaf 289 (fnOf Tryz.f289)) (.node 291 (.leaf 290 (fnOf Tryz.f290)) (.leaf 291 (fnOf Tryz.f291))))) (.node 294 (.node 293 (.leaf 292 (fnOf Tryz.f292)) (.leaf 293 (fnOf Tryz.f293))) (.node 295 (.leaf 294 (fnOf Tryz.f294)) (.node 296 (.leaf 295 (fnOf Tryz.f295)) (.leaf 296 (fnOf Tryz.f296))))))) (.node 307 (.node 302 (.node 299 (.node 298 (.leaf 297 (fnOf Tryz.f297)) (.leaf 298 (fnOf Tryz.f298))) (.node 300 (.leaf 299 (fnOf Tryz.f299)) (.node 301 (.leaf 300 (fnOf Tryz.f300)) (.leaf 301 (fnOf Tryz.f301))))) (.node 304 (.node 303 (.leaf 302 (fnOf Tryz.f302)) (.leaf 303 (fnOf Tryz.f303))) (.node 305 (.leaf 304 (fnOf Tryz.f304)) (.node 306 (.leaf 305 (fnOf Tryz.f305)) (.leaf 306 (fnOf Tryz.f306)))))) (.node 312 (.node 309 (.node 308 (.leaf 307 (fnOf Tryz.f307)) (.leaf 308 (fnOf Tryz.f308))) (.node 310 (.leaf 309 (fnOf Tryz.f309)) (.node 311 (.leaf 310 (fnOf Tryz.f310)) (.leaf 311 (fnOf Tryz.f311))))) (.node 314 (.node 313 (.leaf 312 (fnOf Tryz.f312)) (.leaf 313 (fnOf Tryz.f313))) (.node 315 (.leaf 314 (fnOf Tryz.f314)) (.node 345 (.leaf 315 (fnOf Tryz.f315)) (.leaf 345 (fnOf Tryz.f345)))))))))))
theorem fnTab_ok : fnTab.All (FnOk Tryz.prog) := ⟨⟨⟨⟨⟨⟨⟨⟨fnok2, fnok3⟩, ⟨fnok4, fnok5⟩⟩, ⟨⟨fnok6, fnok7⟩, ⟨fnok8, ⟨fnok9, fnok10⟩⟩⟩⟩, ⟨⟨⟨fnok11, fnok12⟩, ⟨fnok13, ⟨fnok14, fnok15⟩⟩⟩, ⟨⟨fnok16, fnok17⟩, ⟨fnok18, ⟨fnok19, fnok20⟩⟩⟩⟩⟩, ⟨⟨⟨⟨fnok21, fnok22⟩, ⟨fnok23, fnok24⟩⟩, ⟨⟨fnok25, fnok26⟩, ⟨fnok27, ⟨fnok28, fnok29⟩⟩⟩⟩, ⟨⟨⟨fnok30, fnok31⟩, ⟨fnok32, ⟨fnok33, fnok34⟩⟩⟩, ⟨⟨fnok35, fnok36⟩, ⟨fnok37, ⟨fnok38, fnok39⟩⟩⟩⟩⟩⟩, ⟨⟨⟨⟨⟨fnok40, fnok41⟩, ⟨fnok42, fnok43⟩⟩, ⟨⟨fnok44, fnok45⟩, ⟨fnok46, ⟨fnok47, fnok48⟩⟩⟩⟩, ⟨⟨⟨fnok49, fnok50⟩, ⟨fnok51, ⟨fnok52, fnok53⟩⟩⟩, ⟨⟨fnok54, fnok55⟩, ⟨fnok56, ⟨fnok57, fnok58⟩⟩⟩⟩⟩, ⟨⟨⟨⟨fnok59, fnok60⟩, ⟨fnok61, ⟨fnok62, fnok63⟩⟩⟩, ⟨⟨fnok64, fnok65⟩, ⟨fnok66, ⟨fnok67, fnok68⟩⟩⟩⟩, ⟨⟨⟨fnok69, fnok70⟩, ⟨fnok71, ⟨fnok72, fnok73⟩⟩⟩, ⟨⟨fnok74, fnok75⟩, ⟨fnok76, ⟨fnok77, fnok78⟩⟩⟩⟩⟩⟩⟩, ⟨⟨⟨⟨⟨⟨fnok79, fnok80⟩, ⟨fnok81, fnok82⟩⟩, ⟨⟨fnok83, fnok84⟩, ⟨fnok85, ⟨fnok86, fnok87⟩⟩⟩⟩, ⟨⟨⟨fnok88, fnok89⟩, ⟨fnok90, ⟨fnok91, fnok92⟩⟩⟩, ⟨⟨fnok93, fnok94⟩, ⟨fnok95, ⟨fnok96, fnok97⟩⟩⟩⟩⟩, ⟨⟨⟨⟨fnok98, fnok99⟩, ⟨fnok100, ⟨fnok101, fnok102⟩⟩⟩, ⟨⟨fnok103, fnok104⟩, ⟨fnok105, ⟨fnok106, fnok107⟩⟩⟩⟩, ⟨⟨⟨fnok108, fnok109⟩, ⟨fnok110, ⟨fnok111, fnok112⟩⟩⟩, ⟨⟨fnok113, fnok114⟩, ⟨fnok115, ⟨fnok116, fnok117⟩⟩⟩⟩⟩⟩, ⟨⟨⟨⟨⟨fnok118, fnok119⟩, ⟨fnok120, fnok121⟩⟩, ⟨⟨fnok122, fnok123⟩, ⟨fnok124, ⟨fnok125, fnok126⟩⟩⟩⟩, ⟨⟨⟨fnok127, fnok128⟩, ⟨fnok129, ⟨fnok130, fnok131⟩⟩⟩, ⟨⟨fnok132, fnok133⟩, ⟨fnok134, ⟨fnok135, fnok136⟩⟩⟩⟩⟩, ⟨⟨⟨⟨fnok137, fnok138⟩, ⟨fnok139, ⟨fnok140, fnok141⟩⟩⟩, ⟨⟨fnok142, fnok143⟩, ⟨fnok144, ⟨fnok145, fnok146⟩⟩⟩⟩, ⟨⟨⟨fnok147, fnok148⟩, ⟨fnok149, ⟨fnok150, fnok151⟩⟩⟩, ⟨⟨fnok152, fnok153⟩, ⟨fnok154, ⟨fnok155, fnok156⟩⟩⟩⟩⟩⟩⟩⟩, ⟨⟨⟨⟨⟨⟨⟨fnok157, fnok158⟩, ⟨fnok159, fnok160⟩⟩, ⟨⟨fnok161, fnok162⟩, ⟨fnok163, ⟨fnok164, fnok165⟩⟩⟩⟩, ⟨⟨⟨fnok166, fnok167⟩, ⟨fnok168, ⟨fnok169, fnok170⟩⟩⟩, ⟨⟨fnok171, fnok172⟩, ⟨fnok173, ⟨fnok174, fnok175⟩⟩⟩⟩⟩, ⟨⟨⟨⟨fnok176, fnok177⟩, ⟨fnok178, fnok179⟩⟩, ⟨⟨fnok180, fnok181⟩, ⟨fnok182, ⟨fnok183, fnok184⟩⟩⟩⟩, ⟨⟨⟨fnok185, fnok186⟩, ⟨fnok187, ⟨fnok188, fnok189⟩⟩⟩, ⟨⟨fnok190, fnok191⟩, ⟨fnok192, ⟨fnok193, fnok194⟩⟩⟩⟩⟩⟩, ⟨⟨⟨⟨⟨fnok195, fnok196⟩, ⟨fnok197, fnok198⟩⟩, ⟨⟨fnok199, fnok200⟩, ⟨fnok201, ⟨fnok202, fnok203⟩⟩⟩⟩, ⟨⟨⟨fnok204, fnok205⟩, ⟨fnok206, ⟨fnok207, fnok208⟩⟩⟩, ⟨⟨fnok209, fnok210⟩, ⟨fnok211, ⟨fnok212, fnok213⟩⟩⟩⟩⟩, ⟨⟨⟨⟨fnok214, fnok215⟩, ⟨fnok216, ⟨fnok217, fnok218⟩⟩⟩, ⟨⟨fnok219, fnok220⟩, ⟨fnok221, ⟨fnok222, fnok223⟩⟩⟩⟩, ⟨⟨⟨fnok224, fnok225⟩, ⟨fnok226, ⟨fnok227, fnok228⟩⟩⟩, ⟨⟨fnok229, fnok230⟩, ⟨fnok231, ⟨fnok232, fnok233⟩⟩⟩⟩⟩⟩⟩, ⟨⟨⟨⟨⟨⟨fnok234, fnok235⟩, ⟨fnok236, fnok237⟩⟩, ⟨⟨fnok238, fnok239⟩, ⟨fnok240, ⟨fnok241, fnok242⟩⟩⟩⟩, ⟨⟨⟨fnok243, fnok244⟩, ⟨fnok245, ⟨fnok246, fnok247⟩⟩⟩, ⟨⟨fnok248, fnok249⟩, ⟨fnok250, ⟨fnok251, fnok252⟩⟩⟩⟩⟩, ⟨⟨⟨⟨fnok253, fnok254⟩, ⟨fnok255, ⟨fnok256, fnok257⟩⟩⟩, ⟨⟨fnok258, fnok259⟩, ⟨fnok261, ⟨fnok262, fnok263⟩⟩⟩⟩, ⟨⟨⟨fnok264, fnok265⟩, ⟨fnok266, ⟨fnok267, fnok268⟩⟩⟩, ⟨⟨fnok269, fnok270⟩, ⟨fnok271, ⟨fnok272, fnok273⟩⟩⟩⟩⟩⟩, ⟨⟨⟨⟨⟨fnok274, fnok275⟩, ⟨fnok276, fnok277⟩⟩, ⟨⟨fnok278, fnok279⟩, ⟨fnok281, ⟨fnok282, fnok284⟩⟩⟩⟩, ⟨⟨⟨fnok286, fnok288⟩, ⟨fnok289, ⟨fnok290, fnok291⟩⟩⟩, ⟨⟨fnok292, fnok293⟩, ⟨fnok294, ⟨fnok295, fnok296⟩⟩⟩⟩⟩, ⟨⟨⟨⟨fnok297, fnok298⟩, ⟨fnok299, ⟨fnok300, fnok301⟩⟩⟩, ⟨⟨fnok302, fnok303⟩, ⟨fnok304, ⟨fnok305, fnok306⟩⟩⟩⟩, ⟨⟨⟨fnok307, fnok308⟩, ⟨fnok309, ⟨fnok310, fnok311⟩⟩⟩, ⟨⟨fnok312, fnok313⟩, ⟨fnok314, ⟨fnok315, fnok345⟩⟩⟩⟩⟩⟩⟩⟩⟩
theorem eqok7 : EqOk Tryz.prog 7 [.int .i64, .int .i64, .bool, .int .u8] := EqOk.of Tryz.underlying7 (by kernel_rfl) (by kernel_rfl) (.cons 0 _ _ _ _ _ (by decide) rfl Tryz.underlying2 rfl (.cons 1 _ _ _ _ _ (by decide) rfl Tryz.underlying3 rfl (.cons 2 _ _ _ _ _ (by decide) rfl Tryz.underlying4 rfl (.cons 3 _ _ _ _ _ (by decide) rfl Tryz.underlying6 rfl (.nil 4)))))
theorem eqok8 : EqOk Tryz.prog 8 [.int .i64, .int .i64, .bool, .int .u8] := EqOk.of Tryz.underlying8 (by kernel_rfl) (by kernel_rfl) (.cons 0 _ _ _ _ _ (by decide) rfl Tryz.underlying2 rfl (.cons 1 _ _ _ _ _ (by decide) rfl Tryz.underlying3 rfl (.cons 2 _ _ _ _ _ (by decide) rfl Tryz.underlying4 rfl (.cons 3 _ _ _ _ _ (by decide) rfl Tryz.underlying6 rfl (.nil 4)))))
theorem eqok33 : EqOk Tryz.prog 33 [.bool, .str] := EqOk.of Tryz.underlying33 (by kernel_rfl) (by kernel_rfl) (.cons 0 _ _ _ _ _ (by decide) rfl Tryz.underlying4 rfl (.cons 1 _ _ _ _ _ (by decide) rfl Tryz.underlying9 rfl (.nil 2)))
theorem eqok34 : EqOk Tryz.prog 34 [.bool, .str] := EqOk.of Tryz.underlying34 (by kernel_rfl) (by kernel_rfl) (.cons 0 _ _ _ _ _ (by decide) rfl Tryz.underlying4 rfl (.cons 1 _ _ _ _ _ (by decide) rfl Tryz.underlying9 rfl (.nil 2)))
theorem eqok139 : EqOk Tryz.prog 139 [.bool, .str] := EqOk.of Tryz.underlying139 (by kernel_rfl) (by kernel_rfl) (.cons 0 _ _ _ _ _ (by decide) rfl Tryz.underlying4 rfl (.cons 1 _ _ _ _ _ (by decide) rfl Tryz.underlying9 rfl (.nil 2)))
theorem eqok140 : EqOk Tryz.prog 140 [.bool, .str] := EqOk.of Tryz.underlying140 (by kernel_rfl) (by kernel_rfl) (.cons 0 _ _ _ _ _ (by decide) rfl Tryz.underlying4 rfl (.cons 1 _ _ _ _ _ (by decide) rfl Tryz.underlying9 rfl (.nil 2)))
theorem eqok144 : EqOk Tryz.prog 144 [.str, .str] := EqOk.of Tryz.underlying144 (by kernel_rfl) (by kernel_rfl) (.cons 0 _ _ _ _ _ (by decide) rfl Tryz.underlying9 rfl (.cons 1 _ _ _ _ _ (by decide) rfl Tryz.underlying9 rfl (.nil 2)))
theorem eqok145 : EqOk Tryz.prog 145 [.str, .str] := EqOk.of Tryz.underlying145 (by kernel_rfl) (by kernel_rfl) (.cons 0 _ _ _ _ _ (by decide) rfl Tryz.underlying9 rfl (.cons 1 _ _ _ _ _ (by decide) rfl Tryz.underlying9 rfl (.nil 2)))
theorem eqok206 : EqOk Tryz.prog 206 [.int .i64, .int .i64] := EqOk.of Tryz.underlying206 (by kernel_rfl) (by kernel_rfl) (.cons 0 _ _ _ _ _ (by decide) rfl Tryz.underlying88 rfl (.cons 1 _ _ _ _ _ (by decide) rfl Tryz.underlying3 rfl (.nil 2)))
theorem eqok207 : EqOk Tryz.prog 207 [.int .i64, .int .i64] := EqOk.of Tryz.underlying207 (by kernel_rfl) (by kernel_rfl) (.cons 0 _ _ _ _ _ (by decide) rfl Tryz.underlying88 rfl (.cons 1 _ _ _ _ _ (by decide) rfl Tryz.underlying3 rfl (.nil 2)))
theorem eqok212 : EqOk Tryz.prog 212 [.int .i64, .int .i64, .str] := EqOk.of Tryz.underlying212 (by kernel_rfl) (by kernel_rfl) (.cons 0 _ _ _ _ _ (by decide) rfl Tryz.underlying3 rfl (.cons 1 _ _ _ _ _ (by decide) rfl Tryz.underlying3 rfl (.cons 2 _ _ _ _ _ (by decide) rfl Tryz.underlying9 rfl (.nil 3))))
theorem eqok213 : EqOk Tryz.prog 213 [.int .i64, .int .i64, .str] := EqOk.of Tryz.underlying213 (by kernel_rfl) (by kernel_rfl) (.cons 0 _ _ _ _ _ (by decide) rfl Tryz.underlying3 rfl (.cons 1 _ _ _ _ _ (by decide) rfl Tryz.underlying3 rfl (.cons 2 _ _ _ _ _ (by decide) rfl Tryz.underlying9 rfl (.nil 3))))
theorem eqok297 : EqOk Tryz.prog 297 [.int .u8, .int .u8] := EqOk.of Tryz.underlying297 (by kernel_rfl) (by kernel_rfl) (.cons 0 _ _ _ _ _ (by decide) rfl Tryz.underlying5 rfl (.cons 1 _ _ _ _ _ (by decide) rfl Tryz.underlying5 rfl (.nil 2)))
theorem eqok298 : EqOk Tryz.prog 298 [.int .u8, .int .u8] := EqOk.of Tryz.underlying298 (by kernel_rfl) (by kernel_rfl) (.cons 0 _ _ _ _ _ (by decide) rfl Tryz.underlying5 rfl (.cons 1 _ _ _ _ _ (by decide) rfl Tryz.underlying5 rfl (.nil 2)))
theorem eqok322 : EqOk Tryz.prog 322 [.str] := EqOk.of Tryz.underlying322 (by kernel_rfl) (by kernel_rfl) (.cons 0 _ _ _ _ _ (by decide) rfl Tryz.underlying9 rfl (.nil 1))
theorem eqok323 : EqOk Tryz.prog 323 [.str] := EqOk.of Tryz.underlying323 (by kernel_rfl) (by kernel_rfl) (.cons 0 _ _ _ _ _ (by decide) rfl Tryz.underlying9 rfl (.nil 1))
def eqTab : BT (List Kd) := (.node 206 (.node 139 (.node 33 (.node 8 (.leaf 7 [.int .i64, .int .i64, .bool, .int .u8]) (.leaf 8 [.int .i64, .int .i64, .bool, .int .u8])) (.node 34 (.leaf 33 [.bool, .str]) (.leaf 34 [.bool, .str]))) (.node 144 (.node 140 (.leaf 139 [.bool, .str]) (.leaf 140 [.bool, .str])) (.node 145 (.leaf 144 [.str, .str]) (.leaf 145 [.str, .str])))) (.node 297 (.node 212 (.node 207 (.leaf 206 [.int .i64, .int .i64]) (.leaf 207 [.int .i64, .int .i64])) (.node 213 (.leaf 212 [.int .i64, .int .i64, .str]) (.leaf 213 [.int .i64, .int .i64, .str]))) (.node 322 (.node 298 (.leaf 297 [.int .u8, .int .u8]) (.leaf 298 [.int .u8, .int .u8])) (.node 323 (.leaf 322 [.str]) (.leaf 323 [.str])))))
theorem eqTab_ok : eqTab.All (EqOk Tryz.prog) := ⟨⟨⟨⟨eqok7, eqok8⟩, ⟨eqok33, eqok34⟩⟩, ⟨⟨eqok139, eqok140⟩, ⟨eqok144, eqok145⟩⟩⟩, ⟨⟨⟨eqok206, eqok207⟩, ⟨eqok212, eqok213⟩⟩, ⟨⟨eqok297, eqok298⟩, ⟨eqok322, eqok323⟩⟩⟩⟩
end Go.Proofs.YtmbhjdkbcgngiaaGreatDoor
end
section
namespace Go.Ax
open Go
set_option linter.unusedVariables false
set_option linter.unusedSimpArgs false

/-- block 0 holds bytealg.MaxLen: some int -/
def glMax : Nat → Option (Obj → Prop)
  | 0 => some fun o => ∃ m t fr, o = .cells #[.int .i64 m] t fr
  | _ => none
def splitC (c : Nat) : List Nat → List (List Nat)
  | [] => [[]]
  | a :: r => if a = c then [] :: splitC c r else match splitC c r with
    | p :: ps => (a :: p) :: ps
    | [] => [[a]]
def cutC (c : Nat) : List Nat → List Nat × List Nat × Bool
  | [] => ([], [], false)
  | a :: r => if a = c then ([], r, true) else
    let q := cutC c r
    (a :: q.1, q.2)
def indexC (c : Nat) : List Nat → Option Nat
  | [] => none
  | a :: r => if a = c then some 0 else match indexC c r with
    | some i => some (i + 1)
    | none => none
def specSplit : List V → Option V
  | [.str s, .str [c]] => if s.length < 4294967281 then some (.isl false ((splitC c s).map fun p => [V.str p]) true) else none
  | _ => none
def specCut : List V → Option V
  | [.str s, .str [c]] => if s.length < 4294967281 then
      let q := cutC c s
      some (.tup [.str q.1, .str q.2.1, .bool q.2.2]) else none
  | _ => none
def specIndexByte : List V → Option V
  | [.str s, .int .u8 c] => if 0 ≤ c ∧ c < 256 then some (.int .i64 (match indexC c.toNat s with | some i => (i : Int) | none => -1)) else none
  | _ => none

def insK (lt : List V → List V → Bool) (x : List V) : List (List V) → List (List V)
  | [] => [x]
  | y :: r => if lt x y then x :: y :: r else y :: insK lt x r
def sortK (lt : List V → List V → Bool) (l : List (List V)) : List (List V) := l.foldl (fun acc x => insK lt x acc) []
def strLt (a b : List V) : Bool := match a, b with
  | [.str s], [.str t] => slt s t
  | _, _ => false
def labLt (a b : List V) : Bool := match a, b with
  | [.bool x, .str s], [.bool y, .str t] => match x, y with
    | false, true => true
    | true, false => false
    | _, _ => slt s t
  | _, _ => false
def natIn (n : Nat) : List Nat → Bool
  | [] => false
  | a :: r => match Nat.beq n a with
    | true => true
    | false => natIn n r
/-- a key's cells; a struct of one field is no key that is meant -/
def rowOf : V → List V
  | .agg [_] => [.undef]
  | v => v.cells
/-- what comes out of the closure of maps.Keys (fk), of slices.Values (fv) -/
def keysOf (σ : Sg) (fk fv : List Nat) : V → Option (List (List V))
  | .fn f [] [.ref b 0] => match σ[b]?, natIn f fk, natIn f fv with
    | some (.cells _ [.mp m] _), true, _ => match σ[m]? with
      | some (.map es) => some (es.map fun e => rowOf e.1)
      | _ => none
    | some (.cells _ [.imp _ es] _), true, _ => some (es.map fun e => rowOf e.1)
    | some (.cells _ [.nils] _), _, true => some []
    | some (.cells _ [.isl _ xs _] _), _, true => some xs
    | some (.cells _ [.sl c off len _] _), _, true => match σ[c]? with
      | some (.cells _ cs _) => match Nat.ble (off + len) cs.length with
        | true => some (((cs.drop off).take len).map fun v => [v])
        | false => none
      | _ => none
    | _, _, _ => none
  | _ => none
def allRows (p : List V → Bool) : List (List V) → Bool
  | [] => true
  | r :: l => match p r with
    | true => allRows p l
    | false => false
def strRow : List V → Bool
  | [.str s] => Nat.ble s.length 9223372036854775807
  | _ => false
def labRow : List V → Bool
  | [.bool _, .str s] => Nat.ble s.length 9223372036854775807
  | _ => false
def hSorted (t : Nat) (fk fv : List Nat) (ok : List V → Bool) (lt : List V → List V → Bool) (x : V) (σ : Sg) : Option (V × Sg) :=
  match keysOf σ fk fv x with
  | some [] => some (.nils, σ)
  | some l => match allRows ok l, Nat.ble l.length 1000000 with
    | true, true => some (.sl σ.length 0 l.length none, σ ++ [.cells t (sortK lt l).flatten false])
    | _, _ => none
  | none => none
def hSortedStr (t : Nat) (fk fv : List Nat) : List V → Sg → Option (V × Sg)
  | [x], σ => hSorted t fk fv strRow strLt x σ
  | _, _ => none
def hSortedLab (t : Nat) (fk fv : List Nat) (cmp : Nat) : List V → Sg → Option (V × Sg)
  | [x, .fn f [] []], σ => match Nat.beq f cmp with
    | true => hSorted t fk fv labRow labLt x σ
    | false => none
  | _, _ => none
def hMake (t : Nat) : List V → Sg → Option (V × Sg)
  | [.int .i64 n], σ => if 0 ≤ n ∧ n ≤ 1099511627776 then some (.sl σ.length 0 n.toNat none, σ ++ [.cells t [] false]) else none
  | _, _ => none
def hEscape : List V → Sg → Option (V × Sg)
  | [x], σ => some (x, σ)
  | _, _ => none
def strEq (x y : V) : Option Bool := match x, y with
  | .str a, .str b => some (seq a b)
  | _, _ => none
def putAll (es : List (V × V)) : List (V × V) → Option (List (V × V))
  | [] => some es
  | (k, v) :: r => match mput strEq k v es with
    | some es => putAll es r
    | none => none
def copyOk (es : List (V × V)) : Bool := es.all fun e => (match e.1 with | .str _ => true | _ => false) && plainCell e.2
/-- maps.Copy at maps of plain values by strings: the block of the loop's iterator stays behind, dead -/
def hCopy : List V → Sg → Option (V × Sg)
  | [.mp b, y], σ => match σ[b]?, entriesOf σ y with
    | some (.map es), some es' => match copyOk es && copyOk es', (match y with | .mp b' => !(Nat.beq b b') | _ => true), putAll es es' with
      | true, true, some l => some (.tup [], σ.set b (.map l) ++ [.dead])
      | _, _, _ => none
    | _, _ => none
  | _, _ => none
/-- check.back: the shortest way from a rule back to it, of these the first by names -/
def mem (s : List Nat) : List (List Nat) → Bool
  | [] => false
  | a :: r => match seq a s with
    | true => true
    | false => mem s r
def rowStrs : List (List V) → List (List Nat)
  | [.str s] :: r => s :: rowStrs r
  | _ => []
def listOf : V → List (List Nat)
  | .isl _ xs _ => rowStrs xs
  | _ => []
def nextOf (es : List (V × V)) (s : List Nat) : List (List Nat) :=
  match es with
  | (.str k, v) :: r => match seq k s with
    | true => listOf v
    | false => nextOf r s
  | (_, _) :: r => nextOf r s
  | [] => []
def anyIn (l m : List (List Nat)) : Bool :=
  match l with
  | [] => false
  | a :: r => match mem a m with
    | true => true
    | false => anyIn r m
/-- those that need one of some -/
def layer (m : List (List Nat)) : List (V × V) → List (List Nat)
  | [] => []
  | (.str k, v) :: r => match anyIn (listOf v) m with
    | true => k :: layer m r
    | false => layer m r
  | _ :: r => layer m r
def layers (es : List (V × V)) : Nat → List (List Nat) → List (List (List Nat))
  | 0, m => [m]
  | n + 1, m => m :: layers es n (layer m es)
def distIn (s : List Nat) : List (List (List Nat)) → Option Nat
  | [] => none
  | m :: r => match mem s m with
    | true => some 0
    | false => match distIn s r with
      | some k => some (k + 1)
      | none => none
def bestOf (L : List (List (List Nat))) : List (List Nat) → Option Nat
  | [] => none
  | a :: r => match distIn a L, bestOf L r with
    | some d, some e => match Nat.blt e d with
      | true => some e
      | false => some d
    | some d, none => some d
    | none, e => e
def stepOf (L : List (List (List Nat))) (b : Nat) : List (List Nat) → Option (List Nat)
  | [] => none
  | a :: r => match distIn a L with
    | some d => match Nat.beq d b with
      | true => some a
      | false => stepOf L b r
    | none => stepOf L b r
def wayOf (es : List (V × V)) (L : List (List (List Nat))) (at_ : List Nat) : Nat → List (List Nat)
  | 0 => []
  | b + 1 => match stepOf L (b + 1) (nextOf es at_) with
    | some nx => nx :: wayOf es L nx b
    | none => []
def strRows : List (List V) → Bool
  | [] => true
  | [.str _] :: r => strRows r
  | _ => false
def backOk : List (V × V) → Bool
  | [] => true
  | (.str _, .isl _ xs _) :: r => match strRows xs && Nat.ble xs.length 1000000 with
    | true => backOk r
    | false => false
  | (.str _, .nils) :: r => backOk r
  | _ => false
def nodupKeys : List (V × V) → Bool
  | [] => true
  | (.str k, _) :: r => match hasKey k r with
    | true => false
    | false => nodupKeys r
  | _ => false
where hasKey (k : List Nat) : List (V × V) → Bool
  | [] => false
  | (.str k', _) :: r => match seq k' k with
    | true => true
    | false => hasKey k r
  | _ :: r => hasKey k r
def backOf (es : List (V × V)) (f : List Nat) : V :=
  let L := layers es es.length [f]
  match bestOf L (nextOf es f) with
  | none => .nils
  | some b => .isl false ((f :: wayOf es L f b).map fun s => [.str s]) (Nat.beq b 0)
def specBack : List V → Option V
  | [.imp _ es, .str f] => match backOk es, nodupKeys es, Nat.ble es.length 1000000 with
    | true, true, true => some (backOf es f)
    | _, _, _ => none
  | _ => none
end Go.Ax
end
section
namespace Go.Ax
open Go
set_option linter.unusedVariables false
set_option linter.unusedSimpArgs false

/-- two environments that see memory alike -/
structure Alike (E E' : Env) : Prop where
  ty : E.ty = E'.ty
  gl : E.gl = E'.gl
theorem Alike.symm {E E' : Env} (h : Alike E E') : Alike E' E := ⟨h.ty.symm, h.gl.symm⟩
theorem SR.alike {E E' : Env} (h : Alike E E') {c : Cx} (hs : SR E c) : SR E' c where
  inj := hs.inj
  obj := fun b o hb => by
    have := hs.obj b o hb
    cases o with
    | dead => exact True.intro
    | cells t cs ex => simpa only [ObjR, ← h.ty] using this
    | map es => exact this
    | sit s pos => exact this
    | mit left cur => exact this
  anc := hs.anc
  ancLt := hs.ancLt
  gl := by rw [← h.gl]; exact hs.gl
theorem Back.alike {E E' : Env} (h : Alike E E') {c : Cx} {v : V} {σ : Sg} {x : Value} {w : World} (hb : Back E c v σ x w) : Back E' c v σ x w := by
  obtain ⟨c', h1, h2, h3, h4, h5⟩ := hb
  exact ⟨c', h1, h2, h3, h4.alike h, h5⟩
theorem SpecOk.alike {P : Program} {E E' : Env} (h : Alike E E') {f : Nat} {s : List V → Option V} (hs : SpecOk P E f s) : SpecOk P E' f s :=
  fun d vs xs v hd hr hv he => (hs d vs xs v hd (hr.alike h.symm) hv he).mono fun _ _ hb => hb.alike h
theorem HspecOk.alike {P : Program} {E E' : Env} (h : Alike E E') {f : Nat} {s : List V → Sg → Option (V × Sg)} (hs : HspecOk P E f s) : HspecOk P E' f s :=
  fun c vs xs v σ' hr hv he => (hs c vs xs v σ' (hr.alike h.symm) hv he).mono fun _ _ hb => hb.alike h
theorem EnvOk.alike {P : Program} {E E' : Env} (h : Alike E E') (h1 : E.eqs = E'.eqs) (h2 : E.lie = E'.lie) (he : EnvOk P E) : EnvOk P E' :=
  ⟨by rw [← h.ty]; exact he.ty, by rw [← h1]; exact he.eqs, by rw [← h2]; exact he.lie⟩

def memoSpec (t : List (List V × V)) (args : List V) : Option V :=
  match t with
  | [] => none
  | (a, r) :: t => match all2 (veq 12) a args with
    | true => some r
    | false => memoSpec t args
theorem all2_veq : ∀ {a b : List V}, all2 (veq 12) a b = true → a = b
  | [], [], _ => rfl
  | x :: a, y :: b, h => by
    simp only [all2, Bool.and_eq_true] at h
    rw [veq_eq 12 h.1, all2_veq h.2]
  | [], _ :: _, h => by cases h
  | _ :: _, [], h => by cases h
/-- a function's answers -/
def Answers (E : Env) (f : Nat) (t : List (List V × V)) : Prop := ∀ e ∈ t, ∃ n, Ax.call E n f e.1 = some e.2
theorem Answers.nil {E : Env} {f : Nat} : Answers E f [] := fun _ h => by cases h
theorem Answers.cons {E : Env} {f : Nat} {a : List V} {r : V} {t : List (List V × V)} (n : Nat) (h : Ax.call E n f a = some r) (ht : Answers E f t) : Answers E f ((a, r) :: t) := fun e he => by
  rcases List.mem_cons.1 he with rfl | he
  · exact ⟨n, h⟩
  · exact ht e he
theorem Answers.append {E : Env} {f : Nat} {t t' : List (List V × V)} (h : Answers E f t) (h' : Answers E f t') : Answers E f (t ++ t') := fun e he => by
  rcases List.mem_append.1 he with he | he
  · exact h e he
  · exact h' e he
theorem memoSpec_some {t : List (List V × V)} {args : List V} {r : V} (h : memoSpec t args = some r) : (args, r) ∈ t := by
  induction t with
  | nil => cases h
  | cons e t ih =>
    simp only [memoSpec] at h
    split at h
    · rename_i hb
      injection h with h; subst h
      rw [← all2_veq hb]
      exact List.mem_cons_self ..
    · exact List.mem_cons_of_mem _ (ih h)
theorem memo_ok {P : Program} {E : Env} (he : EnvOk P E) (hfs : FnsOk P E) (hmix : P.follows .mixedOrders = true) {f : Nat} {F : Fn} (hF : E.fn f = some F) {t : List (List V × V)} (h : Answers E f t) : SpecOk P E f (memoSpec t) := by
  intro d vs xs v hd hs hv hm
  obtain ⟨n, hc⟩ := h _ (memoSpec_some hm)
  obtain ⟨fn, f1, f2, f3, f4, f5⟩ := hfs.fn f F hF
  have hcall : (callFunc f xs.toArray).run P d.w = .ok (.enter f xs.toArray) d.w := by
    have f5' : ¬ fn.name = "runtime.NumGoroutine" := by simpa using f5
    simp [callFunc, f1, f5', f2]
  refine .inl ⟨hcall, (call_sound he hfs hmix hc hd hs hv).mono ?_⟩
  rintro e w' ⟨x, d', rfl, rfl, h1, h2, h3, h4⟩
  exact ⟨x, rfl, d', rfl, h1, h2, h3, h4⟩

/-- tables that hold over one ground, and environments over them -/
structure Ground (P : Program) where
  ty : BT Ty
  fn : BT Ax.Fn
  mode : BT Ax.Mode
  hspec : BT (List V → Sg → Option (V × Sg))
  eqs : BT (List Kd)
  gl : Nat → Option (Obj → Prop)
  lie : Nat → Bool
def Ground.env {P : Program} (G : Ground P) (spec : BT (List V → Option V)) : Env := mkEnv G.ty G.fn G.mode spec G.hspec G.eqs G.gl G.lie
theorem Ground.alike {P : Program} (G : Ground P) (s s' : BT (List V → Option V)) : Alike (G.env s) (G.env s') := ⟨rfl, rfl⟩
structure GroundOk {P : Program} (G : Ground P) : Prop where
  ty : G.ty.All (TyOk P)
  fn : G.fn.All (FnOk P)
  eqs : G.eqs.All (EqOk P)
  lie : ∀ t, G.lie t = true → liesAt P P.depth t 1 0 t 1 = true
  hspec : G.hspec.All (HspecOk P (G.env .nil))
theorem BT.All.imp {α : Type} {p q : Nat → α → Prop} (h : ∀ n a, p n a → q n a) : ∀ {t : BT α}, t.All p → t.All q
  | .nil, _ => trivial
  | .leaf k a, ht => h k a ht
  | .node _ l r, ht => ⟨BT.All.imp h ht.1, BT.All.imp h ht.2⟩
theorem GroundOk.envOk {P : Program} {G : Ground P} (h : GroundOk G) (s : BT (List V → Option V)) : EnvOk P (G.env s) := mkEnv_ok h.ty h.eqs h.lie
theorem GroundOk.fnsOk {P : Program} {G : Ground P} (h : GroundOk G) {s : BT (List V → Option V)} (hs : s.All (SpecOk P (G.env .nil))) : FnsOk P (G.env s) :=
  mkEnv_fns h.fn (hs.imp fun _ _ k => k.alike (G.alike _ _)) (h.hspec.imp fun _ _ k => k.alike (G.alike _ _))
/-- a table of answers, reckoned over known specs, is a spec -/
theorem GroundOk.memo {P : Program} {G : Ground P} (h : GroundOk G) {s : BT (List V → Option V)} (hs : s.All (SpecOk P (G.env .nil))) (hmix : P.follows .mixedOrders = true) {f : Nat} {F : Fn} (hF : G.fn.get f = some F)
    {t : List (List V × V)} (ht : Answers (G.env s) f t) : SpecOk P (G.env .nil) f (memoSpec t) :=
  (memo_ok (h.envOk s) (h.fnsOk hs) hmix hF ht).alike (G.alike _ _)
end Go.Ax
end
section
namespace Go.Proofs.YtmbhjdkbcgngiaaGreatDoor
open Go Go.Ax
def modeTab : BT Ax.Mode := (.node 164 (.node 108 (.node 66 (.node 56 (.node 14 (.node 12 (.leaf 11 Ax.Mode.shared) (.leaf 12 Ax.Mode.shared)) (.node 23 (.leaf 14 Ax.Mode.shared) (.node 54 (.leaf 23 Ax.Mode.move) (.leaf 54 Ax.Mode.shared)))) (.node 60 (.node 59 (.leaf 56 Ax.Mode.shared) (.leaf 59 Ax.Mode.shared)) (.node 61 (.leaf 60 Ax.Mode.shared) (.node 65 (.leaf 61 Ax.Mode.shared) (.leaf 65 Ax.Mode.shared))))) (.node 94 (.node 84 (.node 74 (.leaf 66 Ax.Mode.shared) (.leaf 74 Ax.Mode.shared)) (.node 91 (.leaf 84 Ax.Mode.shared) (.node 92 (.leaf 91 Ax.Mode.shared) (.leaf 92 Ax.Mode.shared)))) (.node 105 (.node 95 (.leaf 94 Ax.Mode.shared) (.leaf 95 Ax.Mode.shared)) (.node 106 (.leaf 105 Ax.Mode.shared) (.node 107 (.leaf 106 Ax.Mode.shared) (.leaf 107 Ax.Mode.shared)))))) (.node 141 (.node 135 (.node 126 (.node 113 (.leaf 108 Ax.Mode.shared) (.leaf 113 Ax.Mode.shared)) (.node 133 (.leaf 126 Ax.Mode.shared) (.node 134 (.leaf 133 Ax.Mode.shared) (.leaf 134 Ax.Mode.shared)))) (.node 137 (.node 136 (.leaf 135 Ax.Mode.shared) (.leaf 136 Ax.Mode.shared)) (.node 138 (.leaf 137 Ax.Mode.shared) (.node 140 (.leaf 138 Ax.Mode.shared) (.leaf 140 Ax.Mode.shared))))) (.node 159 (.node 146 (.node 145 (.leaf 141 Ax.Mode.shared) (.leaf 145 Ax.Mode.shared)) (.node 157 (.leaf 146 Ax.Mode.shared) (.node 158 (.leaf 157 Ax.Mode.shared) (.leaf 158 Ax.Mode.shared)))) (.node 161 (.node 160 (.leaf 159 Ax.Mode.shared) (.leaf 160 Ax.Mode.shared)) (.node 162 (.leaf 161 Ax.Mode.shared) (.node 163 (.leaf 162 Ax.Mode.shared) (.leaf 163 Ax.Mode.shared))))))) (.node 237 (.node 198 (.node 170 (.node 166 (.node 165 (.leaf 164 Ax.Mode.shared) (.leaf 165 Ax.Mode.shared)) (.node 168 (.leaf 166 Ax.Mode.shared) (.node 169 (.leaf 168 Ax.Mode.shared) (.leaf 169 Ax.Mode.shared)))) (.node 194 (.node 193 (.leaf 170 Ax.Mode.shared) (.leaf 193 Ax.Mode.shared)) (.node 195 (.leaf 194 Ax.Mode.shared) (.node 196 (.leaf 195 Ax.Mode.shared) (.leaf 196 Ax.Mode.shared))))) (.node 224 (.node 209 (.node 208 (.leaf 198 Ax.Mode.shared) (.leaf 208 Ax.Mode.shared)) (.node 216 (.leaf 209 Ax.Mode.shared) (.node 223 (.leaf 216 Ax.Mode.shared) (.leaf 223 Ax.Mode.shared)))) (.node 226 (.node 225 (.leaf 224 Ax.Mode.shared) (.leaf 225 Ax.Mode.shared)) (.node 228 (.leaf 226 Ax.Mode.shared) (.node 236 (.leaf 228 Ax.Mode.shared) (.leaf 236 Ax.Mode.shared)))))) (.node 270 (.node 257 (.node 239 (.node 238 (.leaf 237 Ax.Mode.shared) (.leaf 238 Ax.Mode.shared)) (.node 240 (.leaf 239 Ax.Mode.shared) (.node 241 (.leaf 240 Ax.Mode.shared) (.leaf 241 Ax.Mode.shared)))) (.node 264 (.node 262 (.leaf 257 Ax.Mode.shared) (.leaf 262 Ax.Mode.shared)) (.node 268 (.leaf 264 Ax.Mode.shared) (.node 269 (.leaf 268 Ax.Mode.shared) (.leaf 269 Ax.Mode.shared))))) (.node 278 (.node 272 (.node 271 (.leaf 270 Ax.Mode.shared) (.leaf 271 Ax.Mode.shared)) (.node 276 (.leaf 272 Ax.Mode.shared) (.node 277 (.leaf 276 Ax.Mode.shared) (.leaf 277 Ax.Mode.shared)))) (.node 292 (.node 288 (.leaf 278 Ax.Mode.shared) (.leaf 288 Ax.Mode.shared)) (.node 293 (.leaf 292 Ax.Mode.shared) (.node 304 (.leaf 293 Ax.Mode.shared) (.leaf 304 Ax.Mode.shared))))))))
def specTab : BT (List V → Option V) := (.node 233 (.node 155 (.leaf 131 specBack) (.leaf 155 specSplit)) (.node 273 (.leaf 233 specIndexByte) (.leaf 273 specCut)))
def hspecTab : BT (List V → Sg → Option (V × Sg)) := (.node 99 (.node 64 (.leaf 53 (hSortedLab 34 [95] [] 55)) (.leaf 64 (hSortedStr 9 [105, 292] [226]))) (.node 283 (.leaf 99 hCopy) (.node 285 (.leaf 283 hEscape) (.leaf 285 (hMake 5)))))
noncomputable def ground : Ax.Ground Tryz.prog := { ty := tyTab, fn := fnTab, mode := modeTab, hspec := hspecTab, eqs := eqTab, gl := glMax, lie := fun t => Nat.beq t 249 }
end Go.Proofs.YtmbhjdkbcgngiaaGreatDoor
end
