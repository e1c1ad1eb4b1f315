/- Part 18 of the proof. -/
import Derived.Shelf.Strings.Builder1
import Derived.Shelf.Strings.Builder2
import Derived.Shelf.Strings.OnBuilder
import Derived.Shelf.Small.Bits
import Derived.Shelf.Small.Strs
import Derived.Shelf.Strings.BuilderF
import Derived.Shelf.Strings.BuilderK
import Derived.Shelf.Utf8.RuneCount
import Derived.Shelf.Strings.Builder2Cap
import Derived.Shelf.Strconv.Atoi
import Derived.Shelf.Strconv.Itoa0
import Derived.Shelf.Strconv.Itoa1
import Derived.Shelf.LaysM
import Derived.Shelf.Strconv.Itoa2
import Derived.Shelf.Strconv.Itoa3
import Derived.Shelf.Strconv.AtoiErrFast
import Derived.Shelf.Strconv.ParseIntEmpty
import Derived.Shelf.Strconv.AtoiFail
import Derived.Shelf.Strconv.Clone
import Derived.Shelf.Strconv.SyntaxError
import Derived.Shelf.Strconv.Lower
import Derived.Shelf.Strconv.ParseUint10
import Derived.Shelf.Strconv.ParseUint10Empty
import Derived.Shelf.Strconv.RangeError
import Derived.Shelf.Strconv.ParseUintEmpty
import Derived.Shelf.Strconv.ParseUint10b64
import Derived.Shelf.Strconv.ParseUint10b32
import Derived.Shelf.Strconv.ParseUint10b16
import Derived.Shelf.Strconv.ParseUint10b8
import Derived.Shelf.Strings.Search1
import Derived.Shelf.Strings.Search2
import Derived.Shelf.Strings.Search3
import Derived.Shelf.Strings.Cut
import Derived.Shelf.Strings.Count
import Derived.Shelf.Strings.Shaped
import Derived.Shelf.Sort.Plain
import Derived.Shelf.Strings.Prefix
import Derived.Shelf.Strings.Split
import Derived.Shelf.Strings.Replace
import Derived.Shelf.Strings.SplitShaped
import Derived.Shelf.Unicode.Decode
import Derived.Shelf.Strings.RuneCount
import Derived.Shelf.Strings.Explode
import Derived.Shelf.Unicode.DecodeSlow
import Derived.Shelf.Unicode.DecodeAny
import Derived.Shelf.Slices.Turned
import Derived.Shelf.Slices.Equal
import Derived.Ground.Names2Prog
import Derived.Shelf.Slices.Clone
import Derived.Shelf.Slices.CompactS
import Derived.Shelf.Slices.Cells
import Derived.Shelf.Slices.In.SortNone
import Derived.Shelf.Slices.Empties2
import Derived.Ground.SlgnProg
import Derived.Shelf.SlicesE.Clone
import Derived.Test.YtjcmjanmooabeaaGreatDoorProg
import Derived.Test.YtjcmjanmooabeaaGreatDoorZ3
import Derived.Test.YtjcmjanmooabeaaGreatDoorZ4
import Derived.Lib.Bytealg
import Derived.Lib.Split
import Derived.Lib.SplitLaws
import Derived.Lib.IndexBytes
import Derived.Lib.MakeNoZero
import Derived.KernelRfl
set_option maxHeartbeats 8000000
set_option linter.unusedVariables false
set_option linter.unusedSimpArgs false
section
namespace Go.Proofs
open Go.Shelf
section
def Tryz.lays137_ren:Go.Shelf.Ren:=⟨fun | 137=>266 | 217=>245 | 266=>288 | n=>n,fun | 9=>9 | 5=>5 | 3=>3 | n=>n,fun | n=>n⟩
theorem Tryz.lays137:Go.Proofs.Lays.n137 Tryz.prog Tryz.lays137_ren:={
 mixed:=by kernel_rfl
 f137:=Tryz.func266.trans (congrArg some (by kernel_rfl))
 f217:=Tryz.func245.trans (congrArg some (by kernel_rfl))
 f266:=Tryz.func288.trans (congrArg some (by kernel_rfl))
 t3:=Tryz.underlying3
 a3:=Tryz.isAgg3
 z3:=Tryz.sizeOf3
 v3:=Tryz.zeroValue3
 t5:=Tryz.underlying5
 a5:=Tryz.isAgg5
 z5:=Tryz.sizeOf5
 v5:=Tryz.zeroValue5
 t9:=Tryz.underlying9
 a9:=Tryz.isAgg9
 z9:=Tryz.sizeOf9
 v9:=Tryz.zeroValue9 }
open Go.RowKit in
theorem Tryz.strings_IndexByte (s:ByteArray) (c:Int) (w:World) :
  Calls Tryz.prog 266 #[.string s,.int .u8 c] w λe w'=>e=.returned (.int .i64 (Lib.indexByte s.data.toList c.toNat.toUInt8))/\w'=w:=Any.strings_IndexByte Tryz.lays137 s c w
def Tryz.lays145_ren:Go.Shelf.Ren:=⟨fun | 145=>304 | 220=>315 | 219=>211 | 217=>245 | 225=>246 | 224=>247 | 267=>248 | 266=>288 | 314=>289 | n=>n,fun | 9=>9 | 4=>4 | 59=>315 | 3=>3 | 5=>5 | 46=>149 | 146=>303 | 51=>213 | n=>n,fun | 1=>0 | n=>n⟩
theorem Tryz.lays145:Go.Proofs.Lays.n145 Tryz.prog Tryz.lays145_ren:={
 mixed:=by kernel_rfl
 f145:=Tryz.func304.trans (congrArg some (by kernel_rfl))
 f217:=Tryz.func245.trans (congrArg some (by kernel_rfl))
 f219:=Tryz.func211.trans (congrArg some (by kernel_rfl))
 f220:=Tryz.func315.trans (congrArg some (by kernel_rfl))
 f224:=Tryz.func247.trans (congrArg some (by kernel_rfl))
 f225:=Tryz.func246.trans (congrArg some (by kernel_rfl))
 f266:=Tryz.func288.trans (congrArg some (by kernel_rfl))
 f267:=Tryz.func248.trans (congrArg some (by kernel_rfl))
 f314:=Tryz.func289.trans (congrArg some (by kernel_rfl))
 t3:=Tryz.underlying3
 a3:=Tryz.isAgg3
 z3:=Tryz.sizeOf3
 v3:=Tryz.zeroValue3
 t4:=Tryz.underlying4
 a4:=Tryz.isAgg4
 z4:=Tryz.sizeOf4
 v4:=Tryz.zeroValue4
 t5:=Tryz.underlying5
 a5:=Tryz.isAgg5
 z5:=Tryz.sizeOf5
 v5:=Tryz.zeroValue5
 t9:=Tryz.underlying9
 a9:=Tryz.isAgg9
 z9:=Tryz.sizeOf9
 v9:=Tryz.zeroValue9
 t46:=Tryz.underlying149
 a46:=Tryz.isAgg149
 z46:=Tryz.sizeOf149
 v46:=Tryz.zeroValue149
 t51:=Tryz.underlying213
 a51:=Tryz.isAgg213
 z51:=Tryz.sizeOf213
 v51:=Tryz.zeroValue213
 t59:=Tryz.underlying315
 a59:=Tryz.isAgg315
 z59:=Tryz.sizeOf315
 v59:=Tryz.zeroValue315
 t146:=Tryz.underlying303
 a146:=Tryz.isAgg303
 z146:=Tryz.sizeOf303
 v146:=Tryz.zeroValue303
 g1:=by kernel_rfl }
open Go.RowKit Go.Lib in
theorem Tryz.strings_Cut (s sep:ByteArray) (m:Int) (w:World)(hs:s.size<4294967281)(hm:w.cell? ⟨0,0,none⟩=some (.int .i64 m)) :
  Calls Tryz.prog 304 #[.string s,.string sep] w λe w'=>e=.returned (.tuple #[.string ⟨(Lib.cut s.data.toList sep.data.toList).1.toArray⟩,.string ⟨(Lib.cut s.data.toList sep.data.toList).2.1.toArray⟩,.bool (Lib.cut s.data.toList sep.data.toList).2.2])/\∃n,w'=w.drewN n:=Any.strings_Cut Tryz.lays145 s sep m w hs hm
def Tryz.lays146_ren:Go.Shelf.Ren:=⟨fun | 146=>155 | 221=>205 | 268=>241 | 138=>157 | 143=>159 | 195=>207 | 197=>161 | 218=>208 | 219=>211 | 260=>212 | 217=>245 | 225=>246 | 224=>247 | 267=>248 | 266=>288 | 314=>289 | n=>n,fun | 9=>9 | 31=>33 | 3=>3 | 4=>4 | 0=>0 | 105=>199 | 21=>21 | 5=>5 | 46=>149 | 119=>271 | 139=>274 | 138=>273 | 146=>303 | 51=>213 | n=>n,fun | 1=>0 | 3=>1 | 4=>2 | n=>n⟩
theorem Tryz.lays146:Go.Proofs.Lays.n146 Tryz.prog Tryz.lays146_ren:={
 mixed:=by kernel_rfl
 f138:=Tryz.func157.trans (congrArg some (by kernel_rfl))
 f143:=Tryz.func159.trans (congrArg some (by kernel_rfl))
 f146:=Tryz.func155.trans (congrArg some (by kernel_rfl))
 f195:=Tryz.func207.trans (congrArg some (by kernel_rfl))
 f197:=Tryz.func161.trans (congrArg some (by kernel_rfl))
 f217:=Tryz.func245.trans (congrArg some (by kernel_rfl))
 f218:=Tryz.func208.trans (congrArg some (by kernel_rfl))
 f219:=Tryz.func211.trans (congrArg some (by kernel_rfl))
 f221:=Tryz.func205.trans (congrArg some (by kernel_rfl))
 f224:=Tryz.func247.trans (congrArg some (by kernel_rfl))
 f225:=Tryz.func246.trans (congrArg some (by kernel_rfl))
 f260:=Tryz.func212.trans (congrArg some (by kernel_rfl))
 f266:=Tryz.func288.trans (congrArg some (by kernel_rfl))
 f267:=Tryz.func248.trans (congrArg some (by kernel_rfl))
 f268:=Tryz.func241.trans (congrArg some (by kernel_rfl))
 f314:=Tryz.func289.trans (congrArg some (by kernel_rfl))
 t0:=Tryz.underlying0
 a0:=Tryz.isAgg0
 z0:=Tryz.sizeOf0
 v0:=Tryz.zeroValue0
 t3:=Tryz.underlying3
 a3:=Tryz.isAgg3
 z3:=Tryz.sizeOf3
 v3:=Tryz.zeroValue3
 t4:=Tryz.underlying4
 a4:=Tryz.isAgg4
 z4:=Tryz.sizeOf4
 v4:=Tryz.zeroValue4
 t5:=Tryz.underlying5
 a5:=Tryz.isAgg5
 z5:=Tryz.sizeOf5
 v5:=Tryz.zeroValue5
 t9:=Tryz.underlying9
 a9:=Tryz.isAgg9
 z9:=Tryz.sizeOf9
 v9:=Tryz.zeroValue9
 t21:=Tryz.underlying21
 a21:=Tryz.isAgg21
 z21:=Tryz.sizeOf21
 v21:=Tryz.zeroValue21
 t31:=Tryz.underlying33
 a31:=Tryz.isAgg33
 z31:=Tryz.sizeOf33
 v31:=Tryz.zeroValue33
 t46:=Tryz.underlying149
 a46:=Tryz.isAgg149
 z46:=Tryz.sizeOf149
 v46:=Tryz.zeroValue149
 t51:=Tryz.underlying213
 a51:=Tryz.isAgg213
 z51:=Tryz.sizeOf213
 v51:=Tryz.zeroValue213
 t105:=Tryz.underlying199
 a105:=Tryz.isAgg199
 z105:=Tryz.sizeOf199
 v105:=Tryz.zeroValue199
 t119:=Tryz.underlying271
 a119:=Tryz.isAgg271
 z119:=Tryz.sizeOf271
 t138:=Tryz.underlying273
 a138:=Tryz.isAgg273
 z138:=Tryz.sizeOf273
 v138:=Tryz.zeroValue273
 t139:=Tryz.underlying274
 a139:=Tryz.isAgg274
 z139:=Tryz.sizeOf274
 v139:=Tryz.zeroValue274
 t146:=Tryz.underlying303
 a146:=Tryz.isAgg303
 z146:=Tryz.sizeOf303
 v146:=Tryz.zeroValue303
 g1:=by kernel_rfl
 g3:=by kernel_rfl
 g4:=by kernel_rfl }
open Go.RowKit Go.Lib in
theorem Tryz.strings_Split (s sep:ByteArray) (m:Int) (w:World)(hs:s.size<4294967281)(hm:w.cell? ⟨0,0,none⟩=some (.int .i64 m))(h1:1<=sep.size) :
  Calls Tryz.prog 155 #[.string s,.string sep] w λe w'=>
   e=.returned (.slice (some ⟨w.heap.size,0,none⟩) (Lib.countB s sep+1) (Lib.countB s sep+1))/\w'=w.alloc (.cells ((Lib.splitB sep 0 (Lib.countB s sep) s).map Value.string).toArray 9):=Any.strings_Split Tryz.lays146 (by kernel_rfl) s sep m w hs hm h1
def Tryz.lays155_ren:Go.Shelf.Ren:=⟨fun | 155=>56 | 154=>111 | 138=>157 | 165=>158 | 143=>159 | 166=>160 | 197=>161 | 169=>162 | 195=>207 | 218=>208 | 240=>209 | 241=>210 | 219=>211 | 260=>212 | 276=>243 | 277=>244 | 217=>245 | 225=>246 | 224=>247 | 267=>248 | 266=>288 | 314=>289 | n=>n,fun | 9=>9 | 3=>3 | 4=>4 | 72=>193 | 0=>0 | 76=>197 | 105=>199 | 21=>21 | 5=>5 | 70=>191 | 20=>20 | 37=>61 | 75=>196 | 127=>240 | 164=>267 | 46=>149 | 119=>271 | 139=>274 | 138=>273 | 146=>303 | 51=>213 | 80=>201 | n=>n,fun | 1=>0 | 3=>1 | 4=>2 | n=>n⟩
theorem Tryz.lays155:Go.Proofs.Lays.n155 Tryz.prog Tryz.lays155_ren:={
 mixed:=by kernel_rfl
 f138:=Tryz.func157.trans (congrArg some (by kernel_rfl))
 f143:=Tryz.func159.trans (congrArg some (by kernel_rfl))
 f154:=Tryz.func111.trans (congrArg some (by kernel_rfl))
 f155:=Tryz.func56.trans (congrArg some (by kernel_rfl))
 f165:=Tryz.func158.trans (congrArg some (by kernel_rfl))
 f166:=Tryz.func160.trans (congrArg some (by kernel_rfl))
 f169:=Tryz.func162.trans (congrArg some (by kernel_rfl))
 f195:=Tryz.func207.trans (congrArg some (by kernel_rfl))
 f197:=Tryz.func161.trans (congrArg some (by kernel_rfl))
 f217:=Tryz.func245.trans (congrArg some (by kernel_rfl))
 f218:=Tryz.func208.trans (congrArg some (by kernel_rfl))
 f219:=Tryz.func211.trans (congrArg some (by kernel_rfl))
 f224:=Tryz.func247.trans (congrArg some (by kernel_rfl))
 f225:=Tryz.func246.trans (congrArg some (by kernel_rfl))
 f240:=Tryz.func209.trans (congrArg some (by kernel_rfl))
 f241:=Tryz.func210.trans (congrArg some (by kernel_rfl))
 f260:=Tryz.func212.trans (congrArg some (by kernel_rfl))
 f266:=Tryz.func288.trans (congrArg some (by kernel_rfl))
 f267:=Tryz.func248.trans (congrArg some (by kernel_rfl))
 f276:=Tryz.func243.trans (congrArg some (by kernel_rfl))
 f277:=Tryz.func244.trans (congrArg some (by kernel_rfl))
 f314:=Tryz.func289.trans (congrArg some (by kernel_rfl))
 t0:=Tryz.underlying0
 a0:=Tryz.isAgg0
 z0:=Tryz.sizeOf0
 v0:=Tryz.zeroValue0
 t3:=Tryz.underlying3
 a3:=Tryz.isAgg3
 z3:=Tryz.sizeOf3
 v3:=Tryz.zeroValue3
 t4:=Tryz.underlying4
 a4:=Tryz.isAgg4
 z4:=Tryz.sizeOf4
 v4:=Tryz.zeroValue4
 t5:=Tryz.underlying5
 a5:=Tryz.isAgg5
 z5:=Tryz.sizeOf5
 v5:=Tryz.zeroValue5
 t9:=Tryz.underlying9
 a9:=Tryz.isAgg9
 z9:=Tryz.sizeOf9
 v9:=Tryz.zeroValue9
 t20:=Tryz.underlying20
 a20:=Tryz.isAgg20
 z20:=Tryz.sizeOf20
 v20:=Tryz.zeroValue20
 t21:=Tryz.underlying21
 a21:=Tryz.isAgg21
 z21:=Tryz.sizeOf21
 v21:=Tryz.zeroValue21
 t37:=Tryz.underlying61
 a37:=Tryz.isAgg61
 z37:=Tryz.sizeOf61
 v37:=Tryz.zeroValue61
 t46:=Tryz.underlying149
 a46:=Tryz.isAgg149
 z46:=Tryz.sizeOf149
 v46:=Tryz.zeroValue149
 t51:=Tryz.underlying213
 a51:=Tryz.isAgg213
 z51:=Tryz.sizeOf213
 v51:=Tryz.zeroValue213
 t70:=Tryz.underlying191
 a70:=Tryz.isAgg191
 z70:=Tryz.sizeOf191
 v70:=Tryz.zeroValue191
 t72:=Tryz.underlying193
 a72:=Tryz.isAgg193
 z72:=Tryz.sizeOf193
 v72:=Tryz.zeroValue193
 t75:=Tryz.underlying196
 a75:=Tryz.isAgg196
 z75:=Tryz.sizeOf196
 v75:=Tryz.zeroValue196
 t76:=Tryz.underlying197
 a76:=Tryz.isAgg197
 z76:=Tryz.sizeOf197
 v76:=Tryz.zeroValue197
 t105:=Tryz.underlying199
 a105:=Tryz.isAgg199
 z105:=Tryz.sizeOf199
 v105:=Tryz.zeroValue199
 t119:=Tryz.underlying271
 a119:=Tryz.isAgg271
 z119:=Tryz.sizeOf271
 t127:=Tryz.underlying240
 a127:=Tryz.isAgg240
 z127:=Tryz.sizeOf240
 v127:=Tryz.zeroValue240
 t138:=Tryz.underlying273
 a138:=Tryz.isAgg273
 z138:=Tryz.sizeOf273
 v138:=Tryz.zeroValue273
 t139:=Tryz.underlying274
 a139:=Tryz.isAgg274
 z139:=Tryz.sizeOf274
 v139:=Tryz.zeroValue274
 t146:=Tryz.underlying303
 a146:=Tryz.isAgg303
 z146:=Tryz.sizeOf303
 v146:=Tryz.zeroValue303
 t164:=Tryz.underlying267
 a164:=Tryz.isAgg267
 z164:=Tryz.sizeOf267
 v164:=Tryz.zeroValue267
 g1:=by kernel_rfl
 g3:=by kernel_rfl
 g4:=by kernel_rfl }
theorem Tryz.Builder_Extra_155:Builder.Extra Tryz.prog Tryz.lays155_ren:={
 sizeBuilder:=by kernel_rfl
 liesBuilder:=by kernel_rfl
 t5:=Tryz.underlying5
 a5:=Tryz.isAgg5
 z5:=Tryz.sizeOf5
 v5:=Tryz.zeroValue5
 infoByte:=by kernel_rfl
 cellsByte:=by kernel_rfl
 sizeByte:=by kernel_rfl
 neB5:=by decide }
open Go.RowKit Go.Lib in
theorem Tryz.strings_ReplaceAll (s old new:ByteArray) (m:Int) (w:World)(hs:s.size<4294967281)(hm:w.cell? ⟨0,0,none⟩=some (.int .i64 m))(h1:1<=old.size)(hlen:s.size+Lib.countB s old*new.size<=140737488355328) :
  Calls Tryz.prog 56 #[.string s,.string old,.string new] w λe w'=>
   e=.returned (.string ⟨(Lib.replaceAll s.data.toList old.data.toList new.data.toList).toArray⟩)/\Below w.heap.size w w':=Any.strings_ReplaceAll Tryz.lays155 Tryz.Builder_Extra_155 s old new m w hs hm h1 hlen
end
end Go.Proofs
end
section
namespace Go.Ax
open Go
theorem indexByte_eq (c:Nat)(hc:c<256):∀l:List UInt8,Lib.indexByte l c.toUInt8=match indexC c (l.map UInt8.toNat) with | some i=>(i:Int) | none=>-1
 | []=>rfl
 |b::l=>by
  have ih:=indexByte_eq c hc l
  have e:(b==c.toUInt8)=decide (b.toNat=c):=by
   have:c.toUInt8.toNat=c:=by simp[Nat.toUInt8];omega
   rw[Bool.eq_iff_iff]
   simp only[beq_iff_eq,decide_eq_true_eq]
   constructor
   ·intro h;rw[h];exact this
   ·intro h;exact UInt8.toNat_inj.1 (by rw[h];exact this.symm)
  simp only[Lib.indexByte,List.map_cons,indexC,e,decide_eq_true_eq]
  by_cases h:b.toNat=c
  ·simp[h]
  ·simp only[h,if_false]
   rw[ih]
   cases indexC c (l.map UInt8.toNat) with
   |none=>rfl
   |some i=>
    dsimp only
    rw[if_neg (by simp)]
    simp
end Go.Ax
namespace Go.Ax
open Go Go.Proofs
theorem specIndexByte_ok (E:Env):SpecOk Tryz.prog E 266 specIndexByte:=by
 intro d vs xs v hσ hs hv h
 unfold specIndexByte at h
 split at h
 case h_2=>cases h
 rename_i s c
 split at h
 case isFalse=>cases h
 rename_i hc
 injection h with h;subst h
 cases hv with | cons _ x _ xs hx hr=>
 cases hr with | cons _ y _ ys hy hr=>
 cases hr
 obtain⟨b,rfl,hb⟩:=hx.str_inv
 have:=hy.int_inv;subst this
 refine .inl ⟨Tryz.call266 _ _,(Tryz.strings_IndexByte b c d.w).mono ?_⟩
 rintro e w' ⟨rfl,rfl⟩
 refine⟨_,rfl,d,rfl,hσ,Ext.refl d,hs,?_⟩
 rw[indexByte_eq c.toNat (by omega),show b.data.toList.map UInt8.toNat=s from hb]
 exact .inl (.int _ _)
end Go.Ax
namespace Go.Ax
open Go
theorem splitC_miss (c:Nat):∀l:List Nat,indexC c l=none->splitC c l=[l]
 | [],_=>rfl
 |a::r,h=>by
  simp only[indexC]at h
  split at h
  ·cases h
  rename_i hne
  split at h
  ·cases h
  rename_i hr
  simp[splitC,hne,splitC_miss c r hr]
theorem splitC_hit (c:Nat):∀(l:List Nat) (i:Nat),indexC c l=some i->splitC c l=l.take i::splitC c (l.drop (i+1))
 | [],i,h=>by cases h
 |a::r,i,h=>by
  simp only[indexC]at h
  split at h
  ·rename_i he
   injection h with h;subst h
   simp[splitC,he]
  rename_i hne
  split at h
  ·rename_i j hj
   injection h with h;subst h
   simp[splitC,hne,splitC_hit c r j hj]
  ·cases h
end Go.Ax
namespace Go.Ax
open Go
theorem indexB_one (s sep:ByteArray) (c:Nat)(hb:bytes sep=[c]):Lib.indexB s sep=match indexC c (bytes s) with | some i=>(i:Int) | none=>-1:=by
 have hsz:sep.data.toList.map UInt8.toNat=[c]:=hb
 obtain⟨u,hu⟩:∃u,sep.data.toList=[u]:=by
  cases hl:sep.data.toList with
  |nil=>rw[hl]at hsz;cases hsz
  |cons u r=>
   cases r with
   |nil=>exact⟨u,rfl⟩
   |cons _ _=>rw[hl]at hsz;simp at hsz
 have hc:u.toNat=c:=by rw[hu]at hsz;simpa using hsz
 have e:Lib.indexB s sep=Lib.index s.data.toList sep.data.toList:=rfl
 have hcc:c.toUInt8=u:=by rw[<- hc];simp
 rw[e,hu,Lib.index_one,<- hcc,indexByte_eq c (by rw[<- hc];exact u.toNat_lt)]
 rfl
end Go.Ax
namespace Go.Ax
open Go
theorem indexC_lt (c:Nat):∀(l:List Nat) (i:Nat),indexC c l=some i->i<l.length
 | [],i,h=>by cases h
 |a::r,i,h=>by
  simp only[indexC]at h
  split at h
  ·injection h with h;subst h;simp
  split at h
  ·rename_i j hj
   injection h with h;subst h
   have:=indexC_lt c r j hj
   simp;omega
  ·cases h
theorem split_eq (sep:ByteArray) (c:Nat)(hb:bytes sep=[c]):∀(n:Nat) (s:ByteArray),s.size<=n->(Lib.splitB sep 0 (Lib.countB s sep) s).map bytes=splitC c (bytes s)/\(splitC c (bytes s)).length=Lib.countB s sep+1:=by
 have h1:1<=sep.size:=by
  have:=congrArg List.length hb
  simp[bytes]at this;omega
 have hsep:sep.size=1:=by
  have:=congrArg List.length hb
  simpa [bytes]using this
 intro n
 induction n with
 |zero=>
  intro s hs
  have h0:bytes s=[]:=by
   have:(bytes s).length=0:=by
    have:(bytes s).length=s.size:=by simp[bytes]
    omega
   exact List.length_eq_zero_iff.1 this
  have hi:=indexB_one s sep c hb
  rw[h0]at hi
  have hi':Lib.indexB s sep = -1:=hi
  rw[Lib.countB_miss s sep hi',Lib.splitB_zero]
  simp[h0,splitC]
 |succ n ih=>
  intro s hs
  have hi:=indexB_one s sep c hb
  cases hx:indexC c (bytes s) with
  |none=>
   rw[hx]at hi
   have hi':Lib.indexB s sep = -1:=hi
   rw[Lib.countB_miss s sep hi',Lib.splitB_zero,splitC_miss c _ hx]
   simp
  |some i=>
   rw[hx]at hi
   have hi':Lib.indexB s sep=(i:Nat):=hi
   have hlt:=indexC_lt c _ _ hx
   have hlen:(bytes s).length=s.size:=by simp[bytes]
   have hrec:=ih (s.extract (i+sep.size) s.size) (by rw[ByteArray.size_extract];omega)
   rw[Lib.countB_hit s sep i h1 hi',Nat.add_comm 1,Lib.splitB_hit _ _ _ _ i hi',splitC_hit c _ i hx]
   have hd:bytes (s.extract (i+sep.size) s.size)=(bytes s).drop (i+1):=by
    rw[bytes_extract,hsep,List.take_of_length_le (by rw[List.length_drop];omega)]
   rw[hd]at hrec
   constructor
   ·rw[List.map_cons,hrec.1,bytes_extract]
    simp
   ·simp[hrec.2]
end Go.Ax
namespace Go.Ax
open Go Go.Proofs
theorem gl_cell {E:Env}(hE:E.gl=glMax) {d:Cx}(hs:SR E d):∃m,d.w.cell? ⟨0,0,none⟩=some (.int .i64 m):=by
 obtain⟨o,h1,⟨m,t,fr,rfl⟩,_⟩:=hs.gl 0 (λo=>∃m t fr,o=.cells #[.int .i64 m] t fr) (by rw[hE];rfl)
 exact⟨m,by rw[cell_at h1];rfl⟩
theorem strs_rows {w:World}{I:Bool->Nat->Prop}{blk:Nat}:∀(l:List ByteArray) (off:Nat),(∀(j:Nat) b,l[j]?=some b->w.cell? ⟨blk,off+j,none⟩=some (.string b)) ->
  RowsAt w I 1 ((l.map bytes).map λp=>[V.str p]) blk off
 | [],_,_=>.nil
 |a::l,off,h=>by
  refine .cons _ _ rfl (.cons _ _ _ (by simpa using h 0 a rfl) (.str _) .nil) (strs_rows l (off+1) λj b hj=>?_)
  have:=h (j+1) b (by simpa using hj)
  rwa [show off+(j+1)=off+1+j by omega]at this
theorem specSplit_ok (E:Env)(hE:E.gl=glMax):SpecOk Tryz.prog E 155 specSplit:=by
 intro d vs xs v hσ hs hv h
 unfold specSplit at h
 split at h
 case h_2=>cases h
 rename_i s c
 split at h
 case isFalse=>cases h
 rename_i hc
 injection h with h;subst h
 cases hv with | cons _ x _ xs hx hr=>
 cases hr with | cons _ y _ ys hy hr=>
 cases hr
 obtain⟨b,rfl,hb⟩:=hx.str_inv
 obtain⟨sp,rfl,hsp⟩:=hy.str_inv
 obtain⟨m,hm⟩:=gl_cell hE hs
 have hbs:b.size=s.length:=by rw[<- hb];simp[bytes]
 have hss:sp.size=1:=by
  have:=congrArg List.length hsp
  simpa [bytes]using this
 obtain⟨e1,e2⟩:=split_eq sp c hsp b.size b (Nat.le_refl _)
 refine .inl ⟨Tryz.call155 _ _,(Tryz.strings_Split b sp m d.w (by omega) hm (by omega)).mono ?_⟩
 rintro e w' ⟨rfl,rfl⟩
 obtain⟨k1,k2⟩:=grow_ok hs (w:=d.w.alloc (.cells ((Lib.splitB sp 0 (Lib.countB b sp) b).map Value.string).toArray 9)) (by simp) (λk hk=>Go.RowKit.Below.heap_alloc _ _ _ hk) rfl rfl rfl
 refine⟨_,rfl,d.outer _,rfl,hσ,k1,k2,.inl (.isl false _ true d.w.heap.size 0 _ _ 1 ⟨by simp[Cx.outer],λho=>?_,λ_ ha=>?_⟩ ?_ (Nat.le_refl _) (λ_=>rfl) ?_)⟩
 ·have:=hs.own_lt (k:=d.w.heap.size) ho
  omega
 ·have:=hs.ancLt _ ha
  omega
 ·rw[List.length_map,<- hb,e2]
 ·rw[<- hb,<- e1]
  refine strs_rows _ 0 λj q hj=>?_
  rw[cell_at (arr:=((Lib.splitB sp 0 (Lib.countB b sp) b).map Value.string).toArray) (t:=9) (fr:=(0,0)) (by
   show (d.w.heap.push _)[d.w.heap.size]?=_
   simp)]
  simp[hj]
end Go.Ax
namespace Go.Ax
open Go Go.Proofs
theorem cutC_eq (c:Nat):∀l:List Nat,cutC c l=match indexC c l with | some i=>(l.take i,l.drop (i+1),true) | none=>(l,[],false)
 | []=>rfl
 |a::r=>by
  simp only[cutC,indexC]
  by_cases h:a=c
  ·simp[h]
  ·simp only[h,if_false,cutC_eq c r]
   cases indexC c r <;> simp
end Go.Ax
namespace Go.Ax
open Go Go.Proofs
theorem specCut_ok (E:Env)(hE:E.gl=glMax):SpecOk Tryz.prog E 304 specCut:=by
 intro d vs xs v hσ hs hv h
 unfold specCut at h
 split at h
 case h_2=>cases h
 rename_i s c
 split at h
 case isFalse=>cases h
 rename_i hc
 dsimp only at h
 injection h with h;subst h
 cases hv with | cons _ x _ xs hx hr=>
 cases hr with | cons _ y _ ys hy hr=>
 cases hr
 obtain⟨b,rfl,hb⟩:=hx.str_inv
 obtain⟨sp,rfl,hsp⟩:=hy.str_inv
 obtain⟨m,hm⟩:=gl_cell hE hs
 have hbs:b.size=s.length:=by rw[<- hb];simp[bytes]
 refine .inl ⟨Tryz.call304 _ _,(Tryz.strings_Cut b sp m d.w (by omega) hm).mono ?_⟩
 rintro e w' ⟨rfl,n,rfl⟩
 obtain⟨k1,k2⟩:=grow_ok hs (w:=d.w.drewN n) (by simp) (λk hk=>by simp) rfl rfl rfl
 have hidx:Lib.index b.data.toList sp.data.toList=match indexC c s with | some i=>(i:Int) | none=>-1:=by
  rw[<- hb];exact indexB_one b sp c hsp
 have hlen:sp.data.toList.length=1:=by
  have:=congrArg List.length hsp
  simpa [bytes]using this
 have hl:b.data.toList.map UInt8.toNat=s:=hb
 have str:∀(l:List UInt8),VR (d.outer (d.w.drewN n)) (.str (l.map UInt8.toNat)) (.string ⟨l.toArray⟩):=λl=>by
  have:bytes ⟨l.toArray⟩=l.map UInt8.toNat:=by simp[bytes]
  rw[<- this];exact .inl (.str _)
 refine⟨_,rfl,d.outer (d.w.drewN n),rfl,hσ,k1,k2,?_⟩
 rw[cutC_eq]
 unfold Lib.cut
 cases hx:indexC c s with
 |none=>
  rw[hx]at hidx
  have h0:¬ (0<=Lib.index b.data.toList sp.data.toList):=by rw[hidx];decide
  simp only[if_neg h0]
  refine .tup _ [_,_,_] (.cons _ _ _ _ ?_ (.cons _ _ _ _ ?_ (.cons _ _ _ _ (.inl (.bool _)) .nil)))
  ·have:=str b.data.toList
   rwa [hl]at this
  ·exact str []
 |some i=>
  rw[hx]at hidx
  have h0:0<=Lib.index b.data.toList sp.data.toList:=by rw[hidx];exact Int.natCast_nonneg _
  have h1:(Lib.index b.data.toList sp.data.toList).toNat=i:=by rw[hidx];rfl
  simp only[if_pos h0,h1,hlen]
  refine .tup _ [_,_,_] (.cons _ _ _ _ ?_ (.cons _ _ _ _ ?_ (.cons _ _ _ _ (.inl (.bool _)) .nil)))
  ·have:=str (b.data.toList.take i)
   rwa [List.map_take,hl]at this
  ·have:=str (b.data.toList.drop (i+1))
   rwa [List.map_drop,hl]at this
end Go.Ax
namespace Go.Ax
open Go Go.Proofs
theorem call_make (n:Nat) (w:World):(callFunc 244 #[.int .i64 n]).run Tryz.prog w=((Extern.BytealgMakeNoZero.makeNoZero Tryz.f244.params Tryz.f244.resultTypes #[.int .i64 n]).run Tryz.prog w).andThen λv w'=>.ok (.value v) w':=by
 have h1:Tryz.prog.funcs[244]?=some Tryz.f244:=Tryz.func244
 have h2:(Tryz.f244.name == "runtime.NumGoroutine")=false:=by kernel_rfl
 have h3:Tryz.f244.body.isNone=true:=by kernel_rfl
 have h4:Extern.findNext Tryz.f244=none:=by kernel_rfl
 have h5:Extern.find Tryz.f244=some (Extern.BytealgMakeNoZero.makeNoZero Tryz.f244.params Tryz.f244.resultTypes):=by kernel_rfl
 simp only[callFunc,Sem.run_bind,run_program,Result.andThen_ok,h1,h2,h3,h4,h5,Bool.false_eq_true,if_false,if_true,run_mark,Sem.run_pure]
end Go.Ax
namespace Go.Ax
open Go Go.Proofs
theorem hMake_ok (E:Env) {i:Ty}(hi:E.ty 5=some i)(hsz:i.size=1)(hP:Tryz.prog.underlying 5=some (.int .u8)):HspecOk Tryz.prog E 244 (hMake 5):=by
 intro c vs xs v σ' hs hv h
 unfold hMake at h
 split at h
 case h_2=>cases h
 rename_i n
 split at h
 case isFalse=>cases h
 rename_i hn
 injection h with h;injection h with h1 h2;subst h1 h2
 cases hv with | cons _ x _ xs hx hr=>
 cases hr
 have:=hx.int_inv;subst this
 obtain⟨k,rfl⟩:∃k:Nat,n=k:=⟨n.toNat,by omega⟩
 obtain⟨cs,r1,r2,_⟩:=Lib.run_makeNoZero (P:=Tryz.prog) c.w Tryz.f244.params _ 5 (show Tryz.prog.underlying (Tryz.f244.resultTypes[0]!)=some (.slice 5) by kernel_rfl) k (by omega)
 have hrt:Tryz.f244.resultTypes = #[Tryz.f244.resultTypes[0]!]:=by kernel_rfl
 have hrun:(callFunc 244 [Value.int .i64 (k:Int)].toArray).run Tryz.prog c.w=.ok (.value (.slice (some ⟨c.w.heap.size,0,none⟩) k cs.size)) (c.w.drew.drew.alloc (.cells cs 5)):=by
  show (callFunc 244 #[.int .i64 (k:Int)]).run Tryz.prog c.w=_
  rw[call_make,hrt,r1]
  rfl
 obtain⟨c',q1,q2,q3,q4,q5,q6,q7⟩:=new_row (c:=c.drew.drew) (Cx.drew_sr (Cx.drew_sr hs)) hi (cs:=[]) (xs:=[]) (ys:=cs.toList) .nil rfl
 refine .inr ⟨_,_,hrun,c',?_,q2,(c.drew_ext.trans c.drew.drew_ext).trans q3,q4,?_⟩
 ·rw[q1];rfl
 ·have q5':c'.blk c.Z.length=c.w.heap.size:=q5
  rw[<- q5']
  refine .sl _ _ _ _ _ (by rw[q2];simp[Cx.drew]) (by simpa using r2) (λk hk=>by cases hk) (λ_=>?_)
  have q6':c'.tot c.Z.length=0+cs.toList.length:=q6
  have q7':c'.esz c.Z.length=i.size:=q7
  rw[q6',q7',hsz];simp
end Go.Ax
namespace Go.Ax
open Go Go.Proofs
theorem call_escape (x:Value) (w:World):(callFunc 243 #[x]).run Tryz.prog w=.ok (.value x) w:=by
 have h1:Tryz.prog.funcs[243]?=some Tryz.f243:=Tryz.func243
 have h2:(Tryz.f243.name == "runtime.NumGoroutine")=false:=by kernel_rfl
 have h3:Tryz.f243.body.isNone=true:=by kernel_rfl
 have h4:Extern.findNext Tryz.f243=none:=by kernel_rfl
 have h5:Extern.find Tryz.f243=some Extern.AbiNoEscape.same:=by kernel_rfl
 have h6:(Extern.AbiNoEscape.same #[x]).run Tryz.prog w=.ok x w:=rfl
 simp only[callFunc,Sem.run_bind,run_program,Result.andThen_ok,h1,h2,h3,h4,h5,Bool.false_eq_true,if_false,if_true,run_mark,Sem.run_pure,h6]
theorem hEscape_ok (E:Env):HspecOk Tryz.prog E 243 hEscape:=by
 intro c vs xs v σ' hs hv h
 unfold hEscape at h
 split at h
 case h_2=>cases h
 injection h with h;injection h with h1 h2;subst h1 h2
 cases hv with | cons _ x _ xs hx hr=>
 cases hr
 exact .inr ⟨_,_,call_escape x c.w,c,rfl,rfl,Ext.refl c,hs,hx⟩
end Go.Ax
end
section
namespace Go.Ax
open Go
section
def nextA (fr:Fr) (Z:Sg) (x:Operand) (K:V->Sg->Prop):Prop:=
 match evalO fr x with
 |some (.ref b 0)=>match Z[b]? with
  |some (.mit left _)=>(left=[]->K (.tup [.bool false]) Z)/\∀a e z,left=a++e::z->K (.tup [.bool true,e.1,e.2]) (Z.set b (.mit (a++z) (some e)))
  |_=>False
 |_=>False
def isNext:Op->Option Operand
 | .next x false=>some x
 |_=>none
def wpOpsA (E:Env) (ev:Run) (ops:Array Oper):List Oper->Fr->Sg->(Fr->Sg->Prop)->Prop
 | [],fr,Z,K=>K fr Z
 |o::rest,fr,Z,K=>match isNext o.op with
  |some x=>wants ops o fr=true/\nextA fr Z x λv σ'=>wpOpsA E ev ops rest (putS fr o.dst v) σ' K
  |none=>match stepO E ev .no ops o fr Z with
   |some (fr',σ')=>wpOpsA E ev ops rest fr' σ' K
   |none=>False
def wpA (E:Env):Nat->Code->Fr->Sg->(X->Fr->Sg->Prop)->Prop
 |0,_,_,_,_=>False
 |n+1,c,fr,Z,Q=>match c with
  | .skip=>Q .normal fr Z
  | .seq a b=>wpA E n a fr Z λx fr Z=>match x with
   | .normal=>wpA E n b fr Z Q
   |x=>Q x fr Z
  | .cond c t e=>match evalO fr c with
   |some (.bool true)=>wpA E n t fr Z Q
   |some (.bool false)=>wpA E n e fr Z Q
   |_=>False
  | .block id c=>wpA E n c fr Z λx fr Z=>match x with
   | .exit id'=>if id'=id then Q .normal fr Z else Q (.exit id') fr Z
   |x=>Q x fr Z
  | .loop c=>wpA E n c fr Z λx fr Z=>match x with
   | .normal=>wpA E n (.loop c) fr Z Q
   |x=>Q x fr Z
  | .exit id=>Q (.exit id) fr Z
  | .ret=>Q .ret fr Z
  | .region _ ops draw=>match draw with
   |true=>match evDraw E (ev E n) ops fr Z with
    |some (fr,Z)=>Q .normal fr Z
    |none=>False
   |false=>wpOpsA E (ev E n) ops ops.toList fr Z (Q .normal)
  |_=>False
section
variable {E:Env}{n:Nat}{fr:Fr}{Z:Sg}{Q:X->Fr->Sg->Prop}
theorem wpA_skip:wpA E (n+1) .skip fr Z Q=Q .normal fr Z:=by rw[wpA]
theorem wpA_exit {id:Nat}:wpA E (n+1) (.exit id) fr Z Q=Q (.exit id) fr Z:=by rw[wpA]
theorem wpA_ret:wpA E (n+1) .ret fr Z Q=Q .ret fr Z:=by rw[wpA]
theorem wpA_seq {a b:Code}:wpA E (n+1) (.seq a b) fr Z Q=wpA E n a fr Z λx fr Z=>match x with
   | .normal=>wpA E n b fr Z Q
   |x=>Q x fr Z:=by rw[wpA]
theorem wpA_cond {c:Operand}{t e:Code}:wpA E (n+1) (.cond c t e) fr Z Q=match evalO fr c with
   |some (.bool true)=>wpA E n t fr Z Q
   |some (.bool false)=>wpA E n e fr Z Q
   |_=>False:=by rw[wpA]
theorem wpA_block {id:Nat}{c:Code}:wpA E (n+1) (.block id c) fr Z Q=wpA E n c fr Z λx fr Z=>match x with
   | .exit id'=>if id'=id then Q .normal fr Z else Q (.exit id') fr Z
   |x=>Q x fr Z:=by rw[wpA]
theorem wpA_loop {c:Code}:wpA E (n+1) (.loop c) fr Z Q=wpA E n c fr Z λx fr Z=>match x with
   | .normal=>wpA E n (.loop c) fr Z Q
   |x=>Q x fr Z:=by rw[wpA]
theorem wpA_reg {id:Nat}{ops:Array Oper}:wpA E (n+1) (.region id ops false) fr Z Q=wpOpsA E (ev E n) ops ops.toList fr Z (Q .normal):=by rw[wpA]
end
section
variable {E:Env}{n:Nat}{fr:Fr}{Z:Sg}
theorem ev_skip:ev E (n+1) .skip fr Z=some (.normal,fr,Z):=by rw[ev]
theorem ev_exit {id:Nat}:ev E (n+1) (.exit id) fr Z=some (.exit id,fr,Z):=by rw[ev]
theorem ev_ret:ev E (n+1) .ret fr Z=some (.ret,fr,Z):=by rw[ev]
theorem ev_seq {a b:Code}:ev E (n+1) (.seq a b) fr Z=match ev E n a fr Z with
   |some (.normal,fr,Z)=>ev E n b fr Z
   |r=>r:=by rw[ev];rfl
theorem ev_cond {c:Operand}{t e:Code}:ev E (n+1) (.cond c t e) fr Z=match evalO fr c with
   |some (.bool true)=>ev E n t fr Z
   |some (.bool false)=>ev E n e fr Z
   |_=>no "cond" := by rw[ev];rfl
theorem ev_block {id:Nat}{c:Code}:ev E (n+1) (.block id c) fr Z=match ev E n c fr Z with
   |some (.exit id',fr,Z)=>if id'=id then some (.normal,fr,Z) else some (.exit id',fr,Z)
   |r=>r:=by rw[ev];rfl
def afterLoop (E:Env) (n:Nat) (c:Code):Option (X × Fr × Sg)->Option (X × Fr × Sg)
 |some (.normal,fr,Z)=>ev E n (.loop c) fr Z
 |r=>r
theorem ev_loop' {c:Code}:ev E (n+1) (.loop c) fr Z=afterLoop E n c (ev E n c fr Z):=by rw[ev];rfl
theorem ev_reg {id:Nat}{ops:Array Oper}:ev E (n+1) (.region id ops false) fr Z=match evOps E (ev E n) .no ops ops.toList fr Z with
   |some (fr,Z)=>some (.normal,fr,Z)
   |none=>none:=by rw[ev];simp only[Bool.false_eq_true,if_false];rfl
end
section
variable {P:Program}{E:Env}
def PostA (E:Env) (c:Cx) (Q:X->Fr->Sg->Prop) (e:Exit) (a:Act) (w:World):Prop:=∃x fr Z,Q x fr Z/\Post E c x fr Z e a w
theorem PostA.trans {c c':Cx}{Q:X->Fr->Sg->Prop}{e:Exit}{a:Act}{w:World}(h:Ext c c')(hp:PostA E c' Q e a w):PostA E c Q e a w:=by
 obtain⟨x,fr,Z,h1,h2⟩:=hp
 exact⟨x,fr,Z,h1,h2.trans h⟩
theorem next_sound {c:Cx}(hs:SR E c) {fr:Fr}{a:Act}(hf:FR c fr a.tmps) {o:Oper}{x:Operand}(ho:o.op=.next x false) {K:V->Sg->Prop}(h:nextA fr c.Z x K)
  {next:Act->World->Prop}{Q:Exit->Act->World->Prop}(hn:∀v σ' y w',K v σ'->Back E c v σ' y w'->next (a.put o.dst y) w'):o.wp P a c.w next Q:=by
 unfold nextA at h
 split at h
 case h_2=>exact h.elim
 rename_i b hx
 split at h
 case h_2=>exact h.elim
 rename_i left cur hob
 obtain⟨hp,hblt⟩:=(evalO_sound hf hx).ref_inv
 have hlv:live c.Z b:=⟨_,hob,rfl⟩
 have run:∀(y:Value) (w':World),(Instr.next (.pointer (some ⟨c.blk b,0,none⟩)) false o.type).run P c.w=.ok y w'->next (a.put o.dst y) w'->o.wp P a c.w next Q:=by
  intro y w' hr hk
  unfold Oper.wp
  have:(execOp a.eval o).run P c.w=.ok (.value y) w':=by
   unfold execOp
   rw[ho]
   simp only[hp]
   simp only[Sem.run_bind,hr,Result.andThen_ok,Sem.run_pure]
  rw[this]
  exact hk
 rcases hs.obj b _ hob with⟨h1,h0,h2⟩ | ⟨g,m,en,cl,seen,l,k1,k2,k3,k4,k5,k6,k7⟩
 ·refine run (.tuple #[.bool false]) c.w ?_ (hn _ _ _ _ (h.1 h1) ⟨c,rfl,rfl,Ext.refl c,hs,.tup _ [_] (.cons _ _ _ _ (.inl (.bool _)) .nil)⟩)
  simp only[Instr.next,getObj,Sem.run_bind,Sem.run,h2,Result.andThen]
  rfl
 ·have hl:∀q,q∈(leftOf en seen).toList ↔ q∈l:=λq=>by rw[k5.mem_iff];simp[leftOf]
  rcases run_next_at (P:=P) c.w o.type (c.blk b) m cl cl seen en cl k1 k3 k4.st.1 (Nat.le_refl _) with⟨r1,r2⟩ | ⟨q,r1,w1,r2,r3⟩
  ·have:l=[]:=by
    cases l with
    |nil=>rfl
    |cons q l=>
     have:=(hl q).2 (List.mem_cons_self ..)
     rw[Array.eq_empty_of_size_eq_zero r1]at this
     simp at this
   subst this
   have hleft:left=[]:=by cases k6;rfl
   exact run _ _ r2 (hn _ _ _ _ (h.1 hleft) ⟨c,rfl,rfl,Ext.refl c,hs,.tup _ [_] (.cons _ _ _ _ (.inl (.bool _)) .nil)⟩)
  ·have hq:=(hl q).1 r1
   have part:∀{left:List (V × V)}{l:List MapEntry},MapR c left l->q∈l->∃a e z la lz,left=a++e::z/\l=la++q::lz/\MapR c (a++z) (la++lz)/\IRa c.w c.imm e.1 q.key/\VR c e.2 q.val:=by
    intro left l hm
    induction hm with
    |nil=>intro hq;cases hq
    |cons k v es e l hk hv hr ih=>
     intro hq
     by_cases hqe:q=e
     ·subst hqe
      exact⟨[],(k,v),es,[],l,rfl,rfl,hr,hk,hv⟩
     ·have hq':q∈l:=by
       rcases List.mem_cons.1 hq with hq | hq
       ·exact absurd hq hqe
       ·exact hq
      obtain⟨a,e',z,la,lz,e1,e2,e3,e4,e5⟩:=ih hq'
      exact⟨(k,v)::a,e',z,e::la,lz,by rw[e1];rfl,by rw[e2];rfl,.cons _ _ _ _ _ hk hv e3,e4,e5⟩
   obtain⟨pa,pe,pz,la,lz,e1,e2,e3,e4,e5⟩:=part k6 hq
   let c1:Cx:={ c with w:=w1 }
   have hc1:SR E c1/\Ext c c1/\w1.heap=c.w.heap:=by
    rcases r2 with rfl | rfl
    ·exact⟨hs,Ext.refl c,rfl⟩
    ·exact⟨Cx.drew_sr hs,c.drew_ext,rfl⟩
   obtain⟨hs1,hx1,hh1⟩:=hc1
   have hlv1:live c1.Z b:=hlv
   have hx2:=Cx.put_ext (c:=c1) hlv1 (.mapIter (some m) cl (seen.push q.born) cl) (.mit (pa++pz) (some pe))
   have hx3:=hx1.trans hx2
   have hqen:q∈en.toList:=by
    have:=r1
    simp only[leftOf,Array.toList_filter,List.mem_filter]at this
    exact this.1
   have hs2:SR E (c1.put b (.mapIter (some m) cl (seen.push q.born) cl) (.mit (pa++pz) (some pe))):=by
    refine Cx.put_sr hs1 hlv1 _ _ (.inr ⟨g,m,en,cl,seen.push q.born,la++lz,?_,(hx3.wider g m k2).1,by rw[(hx3.wider g m k2).2];exact k3,k4,?_,e3.mono hx3,?_⟩)
    ·have hlt:=heap_lt k1
     show (w1.heap.setIfInBounds (c.blk b) _)[c.blk b]?=_
     rw[hh1]
     simp[hlt]
    ·have hnd:(en.toList.map (·.born)).Nodup:=k4.st.2.1
     have hp2:(la++q::lz).Perm (en.toList.filter λe=>!seen.contains e.born):=by rw[<- e2];exact k5
     have hf:(en.toList.filter λe=>!(seen.push q.born).contains e.born)=(en.toList.filter λe=>!seen.contains e.born).filter λe=>!(e.born==q.born):=by
      rw[List.filter_filter]
      refine List.filter_congr λe _=>?_
      simp only[Array.contains_push,Bool.not_or]
      rw[Bool.and_comm]
     rw[hf]
     have hp3:=hp2.filter λe:MapEntry=>!(e.born==q.born)
     have hnd2:((la++q::lz).map (·.born)).Nodup:=by
      have:((en.toList.filter λe=>!seen.contains e.born).map (·.born)).Nodup:=hnd.sublist (List.filter_sublist.map _)
      exact (hp2.map _).nodup_iff.2 this
     have hself:(la++q::lz).filter (λe:MapEntry=>!(e.born==q.born))=la++lz:=by
      rw[List.map_append,List.map_cons,List.nodup_append]at hnd2
      obtain⟨n1,n2,n3⟩:=hnd2
      rw[List.nodup_cons]at n2
      rw[List.filter_append,List.filter_cons]
      have q0:(!(q.born==q.born))=false:=by simp
      rw[q0,if_neg (by simp)]
      congr 1
      ·rw[List.filter_eq_self]
       intro e he
       have:e.born≠q.born:=λh=>n3 _ (List.mem_map_of_mem he) _ (List.mem_cons_self ..) h
       simp[this]
      ·rw[List.filter_eq_self]
       intro e he
       have:e.born≠q.born:=λh=>n2.1 (by rw[<- h];exact List.mem_map_of_mem he)
       simp[this]
     rw[hself]at hp3
     exact hp3
    ·intro e he
     injection he with he;subst he
     exact⟨q,hqen,⟨seen,rfl⟩,IRa.mono hx3.wider e4,e5.mono hx3⟩
   refine run _ _ r3 (hn _ _ _ _ (h.2 pa pe pz e1) ⟨_,?_,rfl,hx3,hs2,.tup _ [_,_,_] (.cons _ _ _ _ (.inl (.bool _)) (.cons _ _ _ _ ((IRa.mono hx3.wider e4).vr) (.cons _ _ _ _ (e5.mono hx3) .nil)))⟩)
   rfl
theorem wpOpsA_sound (he:EnvOk P E)(hfs:FnsOk P E) {ev:Run}(hev:RunOk P E ev) {ops:Array Oper}{Q:X->Fr->Sg->Prop}:∀(rest:List Oper) (k:Nat),ops.toList.drop k=rest->∀{c:Cx}{fr:Fr}{a:Act},SR E c->FR c fr a.tmps->a.defers=[] ->
  wpOpsA E ev ops rest fr c.Z (Q .normal)->∀(c0:Cx),Ext c0 c->wpOps P ops (PostA E c0 Q) (List.range' k rest.length) a c.w
 | [],k,_,c,fr,a,hs,hf,hd,h,c0,hx=>⟨.normal,fr,c.Z,h,rfl,hd,c,rfl,rfl,hx,hs,hf⟩
 |o::rest,k,hk,c,fr,a,hs,hf,hd,h,c0,hx=>by
  have ho:ops[k]?=some o:=by
   have:=congrArg (·[0]?) hk
   simpa using this
  have hk':ops.toList.drop (k+1)=rest:=by
   have:=congrArg List.tail hk
   simpa using this
  simp only[List.length_cons,List.range'_succ,wpOps,ho]
  rw[wants_eq hf]
  simp only[wpOpsA]at h
  split at h
  ·rename_i x hnx
   have hop:o.op=.next x false:=by
    unfold isNext at hnx
    split at hnx
    ·rename_i heq;injection hnx with hnx;subst hnx;exact heq
    ·cases hnx
   obtain⟨hw,h⟩:=h
   rw[if_pos hw]
   left
   refine next_sound hs hf hop h ?_
   rintro v σ' y w' hK ⟨c',rfl,rfl,k1,k2,k3⟩
   exact wpOpsA_sound he hfs hev rest (k+1) hk' k2 (FR.put (FR.mono k1 hf) k3 o.dst) (by rw[put_defers];exact hd) hK c0 (hx.trans k1)
  ·split at h
   case h_2=>exact h.elim
   rename_i fr1 σ1 hst
   unfold stepO at hst
   simp only[opW_eq]at hst
   split at hst
   ·rename_i hw
    rw[if_pos hw]
    left
    split at hst
    case h_2=>cases hst
    rename_i v σ2 hop
    injection hst with hst;injection hst with e1 e2;subst e1 e2
    refine op_sound he hfs hev hs hf hop ?_
    rintro x w' ⟨c',rfl,rfl,k1,k2,k3⟩
    exact wpOpsA_sound he hfs hev rest (k+1) hk' k2 (FR.put (FR.mono k1 hf) k3 o.dst) (by rw[put_defers];exact hd) h c0 (hx.trans k1)
   ·rename_i hw
    rw[if_neg hw]
    injection hst with hst;injection hst with e1 e2;subst e1 e2
    exact wpOpsA_sound he hfs hev rest (k+1) hk' hs (hf.put .undef o.dst) (by rw[put_defers];exact hd) h c0 hx
def RunA (P:Program) (E:Env) (n:Nat):Prop:=∀(code:Code) (fr:Fr) (Z:Sg) (Q:X->Fr->Sg->Prop),wpA E n code fr Z Q ->
 ∀(c:Cx) (a:Act),SR E c->c.Z=Z->FR c fr a.tmps->a.defers=[]->code.wp P (PostA E c Q) a c.w
theorem wpA_sound (he:EnvOk P E)(hfs:FnsOk P E)(hmix:P.follows .mixedOrders=true):∀n,RunA P E n /\
  ∀(c1:Code) (fr:Fr) (Z:Sg) (Q:X->Fr->Sg->Prop),wpA E n (.loop c1) fr Z Q->∀(c:Cx) (a:Act),SR E c->c.Z=Z->FR c fr a.tmps->a.defers=[] ->
   ∀c0,Ext c0 c->Code.rounds P c1 (PostA E c0 Q) n a c.w
 |0=>by
  constructor
  ·intro code fr Z Q h
   simp only[wpA]at h
  ·intro c1 fr Z Q h
   simp only[wpA]at h
 |n+1=>by
  obtain⟨ih,ihl⟩:=wpA_sound he hfs hmix n
  have loops:∀(c1:Code) (fr:Fr) (Z:Sg) (Q:X->Fr->Sg->Prop),wpA E (n+1) (.loop c1) fr Z Q->∀(c:Cx) (a:Act),SR E c->c.Z=Z->FR c fr a.tmps->a.defers=[] ->
    ∀c0,Ext c0 c->Code.rounds P c1 (PostA E c0 Q) (n+1) a c.w:=by
   intro c1 fr Z Q h c a hs hσ hf hd c0 hx
   rw[rounds_succ]
   simp only[wpA]at h
   refine wp_mono (ih _ _ _ _ h c a hs hσ hf hd) ?_
   rintro e a1 w1 ⟨x,fr1,σ1,hq,hx1,hd1,c',rfl,hσ1,k1,k2,k3⟩
   cases x with
   |normal=>
    cases hx1
    exact ihl c1 fr1 σ1 Q hq c' a1 k2 hσ1 k3 hd1 c0 (hx.trans k1)
   |exit id=>cases hx1;exact⟨.exit id,fr1,σ1,hq,rfl,hd1,c',rfl,hσ1,hx.trans k1,k2,k3⟩
   |ret=>cases hx1;exact⟨.ret,fr1,σ1,hq,rfl,hd1,c',rfl,hσ1,hx.trans k1,k2,k3⟩
  refine⟨λcode fr Z Q h c a hs hσ hf hd=>?_,loops⟩
  subst hσ
  cases code with
  |skip=>
   simp only[wpA]at h
   exact wp_skip ⟨.normal,fr,c.Z,h,rfl,hd,c,rfl,rfl,Ext.refl c,hs,hf⟩
  |exit id=>
   simp only[wpA]at h
   exact wp_exit ⟨.exit id,fr,c.Z,h,rfl,hd,c,rfl,rfl,Ext.refl c,hs,hf⟩
  |ret=>
   simp only[wpA]at h
   exact wp_ret ⟨.ret,fr,c.Z,h,rfl,hd,c,rfl,rfl,Ext.refl c,hs,hf⟩
  |seq x y=>
   simp only[wpA]at h
   refine wp_seq ?_
   refine wp_mono (ih _ _ _ _ h c a hs rfl hf hd) ?_
   rintro e a1 w1 ⟨x,fr1,σ1,hq,hx1,hd1,c',rfl,hσ1,k1,k2,k3⟩
   cases x with
   |normal=>
    cases hx1
    exact wp_mono (ih _ _ _ _ hq c' a1 k2 hσ1 k3 hd1) λe a w hp=>hp.trans k1
   |exit id=>cases hx1;exact⟨.exit id,fr1,σ1,hq,rfl,hd1,c',rfl,hσ1,k1,k2,k3⟩
   |ret=>cases hx1;exact⟨.ret,fr1,σ1,hq,rfl,hd1,c',rfl,hσ1,k1,k2,k3⟩
  |cond x y z=>
   simp only[wpA]at h
   split at h
   ·rename_i hx
    exact wp_cond_true (evalO_sound hf hx).bool_inv (ih _ _ _ _ h c a hs rfl hf hd)
   ·rename_i hx
    exact wp_cond_false (evalO_sound hf hx).bool_inv (ih _ _ _ _ h c a hs rfl hf hd)
   ·exact h.elim
  |block id x=>
   simp only[wpA]at h
   refine wp_block ?_
   refine wp_mono (ih _ _ _ _ h c a hs rfl hf hd) ?_
   rintro e a1 w1 ⟨x,fr1,σ1,hq,hx1,hp⟩
   cases x with
   |normal=>cases hx1;exact⟨.normal,fr1,σ1,hq,rfl,hp⟩
   |ret=>cases hx1;exact⟨.ret,fr1,σ1,hq,rfl,hp⟩
   |exit id'=>
    cases hx1
    simp only[Exit.inBlock]
    simp only at hq
    split at hq
    ·rename_i heq
     rw[if_pos heq]
     exact⟨.normal,fr1,σ1,hq,rfl,hp⟩
    ·rename_i heq
     rw[if_neg heq]
     exact⟨.exit id',fr1,σ1,hq,rfl,hp⟩
  |loop x=>exact wp_loop_rounds (n+1) (loops x fr c.Z Q h c a hs rfl hf hd c (Ext.refl c))
  |region id ops draw=>
   simp only[wpA]at h
   cases draw with
   |false=>
    refine wp_region ?_
    simp only at h
    rw[List.range_eq_range',<- Array.length_toList]
    exact wpOpsA_sound he hfs (ev_sound he hfs hmix n).1 ops.toList 0 (by simp) hs hf hd h c (Ext.refl c)
   |true=>
    simp only at h
    split at h
    case h_2=>exact h.elim
    rename_i fr1 σ1 h1
    have hr:ev E (n+1) (.region id ops true) fr c.Z=some (.normal,fr1,σ1):=by
     simp only[ev,if_true,h1]
    exact wp_mono ((ev_sound he hfs hmix (n+1)).1 _ _ _ _ _ _ hr c a hs rfl hf hd) λe a w hp=>⟨.normal,fr1,σ1,h,hp⟩
  |_=>simp only[wpA]at h
def entersA (E:Env) (n:Nat) (F:Fn) (args:List V) (Z:Sg) (R:V->Sg->Prop):Prop:=
 ∃fr,Fr.init F.ntmps args=some fr/\wpA E n F.code fr Z λx fr Z=>(x=.normal\/x=.ret)/\∃vs,results E fr Z F.results=some vs/\R (match vs with | [v]=>v | vs=>.tup vs) Z
theorem entersA_sound (he:EnvOk P E)(hfs:FnsOk P E)(hmix:P.follows .mixedOrders=true) {f:Nat}{F:Fn}(hF:E.fn f=some F) {c:Cx}(hs:SR E c) {vs:List V}{xs:List Value}(hv:VRs c vs xs) {n:Nat}{R:V->Sg->Prop}
  (h:entersA E n F vs c.Z R):Calls P f xs.toArray c.w λe w'=>∃x v σ',e=.returned x/\R v σ'/\Back E c v σ' x w':=by
 obtain⟨fn,h1,h2,h3,h4,h5⟩:=hfs.fn f F hF
 obtain⟨fr0,hfr0,h⟩:=h
 refine calls_of_wp h1 h2 ?_
 have hlen:=hv.len
 have:=(wpA_sound he hfs hmix n).1 _ _ _ _ h c { tmps:=xs.toArray++Array.replicate (fn.ntmps-xs.toArray.size) undef,defers:=[] } hs rfl (by
  have:=FR.init hv hfr0
  simpa [h3]using this) rfl
 refine wp_mono this ?_
 rintro e a w ⟨x,fr1,σ1,⟨hq1,us,hu,hR⟩,hx,hd,c',rfl,rfl,k1,k2,k3⟩
 have fin:a.defers=[]/\∃v',(Go.results fn a.tmps).run P c'.w=.ok v' c'.w/\∃x v σ',Ending.returned v'=.returned x/\R v σ'/\Back E c v σ' x c'.w:=by
  refine⟨hd,?_⟩
  obtain⟨ys,g1,g2⟩:=results_sound he k2 k3 hu
  have run:∀v',(if h:ys.toArray.size=1 then ys.toArray[0] else .tuple ys.toArray)=v'->(Go.results fn a.tmps).run P c'.w=.ok v' c'.w:=by
   rintro v' rfl
   rw[results_eq,Array.mapM_eq_mapM_toList,h4]
   simp only[Sem.run_bind,Sem.run_map]
   rw[g1]
   simp
  cases g2 with
  |nil=>exact⟨_,run _ rfl,_,_,_,rfl,hR,c',rfl,rfl,k1,k2,.tup [] [] .nil⟩
  |cons u y us ys hy hr=>
   cases hr with
   |nil=>exact⟨y,run _ (by simp),_,_,_,rfl,hR,c',rfl,rfl,k1,k2,hy⟩
   |cons u' y' us ys hy' hr=>
    refine⟨.tuple (y::y'::ys).toArray,run _ ?_,_,_,_,rfl,hR,c',rfl,rfl,k1,k2,.tup _ _ (.cons _ _ _ _ hy (.cons _ _ _ _ hy' hr))⟩
    rw[dif_neg (by simp)]
 rcases hq1 with rfl | rfl
 ·cases hx;exact fin
 ·cases hx;exact fin
theorem runs_of_calls (hfs:FnsOk P E) {f:Nat}{F:Fn}(hF:E.fn f=some F) {xs:List Value}{w:World}{R:Value->World->Prop}(h:Calls P f xs.toArray w λe w'=>∃x,e=.returned x/\R x w'):Runs P f xs w R:=by
 obtain⟨fn,f1,f2,f3,f4,f5⟩:=hfs.fn f F hF
 have f5':¬ fn.name = "runtime.NumGoroutine" := by simpa using f5
 exact .inl ⟨by simp[callFunc,f1,f5',f2],h⟩
theorem spec_of_runs (he:EnvOk P E)(hfs:FnsOk P E)(hmix:P.follows .mixedOrders=true) {f:Nat}{F:Fn}(hF:E.fn f=some F) {s:List V->Option V}
  (h:∀vs v,s vs=some v->∃n,entersA E n F vs [] λu Z=>snapT Z E.ty false u=some v):SpecOk P E f s:=by
 intro d vs xs v hd hs hv hm
 obtain⟨n,hn⟩:=h vs v hm
 refine runs_of_calls hfs hF ?_
 have hi:=inner_sr hs []
 have hvi:VRs (d.inner (d.kills [])) vs xs:=by
  refine VRs.mono ?_ hv
  have ho:∀k,¬ d.own k:=by
   rintro k ⟨b,⟨o,ho,_⟩,_⟩
   rw[hd]at ho;cases ho
  have hanc:(d.inner (d.kills [])).anc=d.anc:=by
   funext k
   exact propext ⟨λh=>h.resolve_right (ho k),λh=>.inl h⟩
  exact⟨Nat.le_refl _,λk _ _=>⟨rfl,inner_own⟩,by rw[hd];exact Nat.le_refl _,λ_ _=>rfl,λ_ _=>rfl,λ_ _=>rfl,hanc,rfl,rfl,rfl⟩
 refine (entersA_sound he hfs hmix hF hi hvi hn).mono ?_
 rintro e w' ⟨x,u,σ1,rfl,hR,d1,rfl,hσ,hx,hsd,hxv⟩
 rw[<- hσ]at hR
 obtain⟨g1,g2,g3⟩:=return_ok hs hx hsd hxv hR
 exact⟨x,rfl,(d.kills []).outer d1.w,rfl,hd,g1,g2,g3⟩
end
end
section
theorem MapR.perm {c:Cx}{es es':List (V × V)}{l:List MapEntry}(h:MapR c es l)(hp:es.Perm es'):∃l',l.Perm l'/\MapR c es' l':=by
 induction hp generalizing l with
 |nil=>exact⟨l,.refl _,h⟩
 |cons x _ ih=>
  cases h with | cons k v es e l hk hv hr=>
  obtain⟨l',h1,h2⟩:=ih hr
  exact⟨e::l',.cons _ h1,.cons _ _ _ _ _ hk hv h2⟩
 |swap x y l0=>
  cases h with | cons k v es e l hk hv hr=>
  cases hr with | cons k' v' es e' l hk' hv' hr=>
  exact⟨e'::e::l,.swap ..,.cons _ _ _ _ _ hk' hv' (.cons _ _ _ _ _ hk hv hr)⟩
 |trans _ _ ih1 ih2=>
  obtain⟨l1,h1,h2⟩:=ih1 h
  obtain⟨l2,h3,h4⟩:=ih2 h2
  exact⟨l2,h1.trans h3,h4⟩
def ks:V × V->List Nat
 |(.str k,_)=>k
 |_=>[]
def AllStr (es:List (V × V)):Prop:=∀e∈es,∃k,e.1=.str k
theorem mput_str {k:List Nat}{v:V}:∀{es:List (V × V)},AllStr es->(es.map ks).Nodup->∃l,mput strEq (.str k) v es=some l/\AllStr l/\(l.map ks).Nodup/\∀e,e∈l ↔ e=(.str k,v)\/(e∈es/\ks e≠k)
 | [],_,_=>⟨[(.str k,v)],rfl,by intro e he;simp at he;subst he;exact⟨k,rfl⟩,by simp,by simp⟩
 |(k',v')::es,h,hn=>by
  obtain⟨k2,hk2⟩:=h (k',v') (List.mem_cons_self ..)
  simp only at hk2
  subst hk2
  simp only[List.map_cons,List.nodup_cons]at hn
  have hr:AllStr es:=λe he=>h e (List.mem_cons_of_mem _ he)
  by_cases e:k=k2
  ·subst e
   have hb:strEq (.str k) (.str k)=some true:=by simp[strEq,seq_eq]
   refine⟨(.str k,v)::es,by simp only[mput,hb],?_,?_,?_⟩
   ·intro e he
    rcases List.mem_cons.1 he with rfl | he
    ·exact⟨k,rfl⟩
    ·exact hr e he
   ·simp only[List.map_cons,List.nodup_cons];exact hn
   ·intro e
    simp only[List.mem_cons]
    constructor
    ·rintro (rfl | he)
     ·exact .inl rfl
     ·exact .inr ⟨.inr he,λhk=>hn.1 (List.mem_map.2 ⟨e,he,hk⟩)⟩
    ·rintro (rfl | ⟨rfl | he,hk⟩)
     ·exact .inl rfl
     ·exact absurd rfl hk
     ·exact .inr he
  ·obtain⟨l,h1,h2,h3,h4⟩:=mput_str (k:=k) (v:=v) hr hn.2
   have hb:strEq (.str k) (.str k2)=some false:=by simp[strEq,seq_eq,e]
   refine⟨(.str k2,v')::l,by simp only[mput,hb,h1],?_,?_,?_⟩
   ·intro e he
    rcases List.mem_cons.1 he with rfl | he
    ·exact⟨k2,rfl⟩
    ·exact h2 e he
   ·simp only[List.map_cons,List.nodup_cons]
    refine⟨λhm=>?_,h3⟩
    obtain⟨x,hx,hxk⟩:=List.mem_map.1 hm
    rcases (h4 x).1 hx with rfl | ⟨hx,_⟩
    ·exact e hxk
    ·exact hn.1 (List.mem_map.2 ⟨x,hx,hxk⟩)
   ·intro x
    simp only[List.mem_cons,h4]
    constructor
    ·rintro (rfl | rfl | ⟨hx,hk⟩)
     ·exact .inr ⟨.inl rfl,λhk=>e hk.symm⟩
     ·exact .inl rfl
     ·exact .inr ⟨.inr hx,hk⟩
    ·rintro (rfl | ⟨rfl | hx,hk⟩)
     ·exact .inr (.inl rfl)
     ·exact .inl rfl
     ·exact .inr (.inr ⟨hx,hk⟩)
theorem putAll_str:∀{p:List (V × V)}{es:List (V × V)},AllStr p->(p.map ks).Nodup->AllStr es->(es.map ks).Nodup->∃l,putAll es p=some l/\AllStr l/\(l.map ks).Nodup/\∀e,e∈l ↔ e∈p\/(e∈es/\ks e ∉ p.map ks)
 | [],es,_,_,h,hn=>⟨es,rfl,h,hn,by simp⟩
 |(k',v)::p,es,hp,hpn,h,hn=>by
  obtain⟨k,hk⟩:=hp (k',v) (List.mem_cons_self ..)
  simp only at hk
  subst hk
  simp only[List.map_cons,List.nodup_cons]at hpn
  obtain⟨l1,a1,a2,a3,a4⟩:=mput_str (k:=k) (v:=v) h hn
  obtain⟨l,b1,b2,b3,b4⟩:=putAll_str (p:=p) (es:=l1) (λe he=>hp e (List.mem_cons_of_mem _ he)) hpn.2 a2 a3
  refine⟨l,?_,b2,b3,?_⟩
  ·simp only[putAll,a1,b1]
  ·intro e
   rw[b4,a4]
   simp only[List.mem_cons,List.map_cons,not_or]
   constructor
   ·rintro (he | ⟨rfl | ⟨he,h1⟩,h2⟩)
    ·exact .inl (.inr he)
    ·exact .inl (.inl rfl)
    ·exact .inr ⟨he,h1,h2⟩
   ·rintro ((rfl | he) | ⟨he,h1,h2⟩)
    ·exact .inr ⟨.inl rfl,hpn.1⟩
    ·exact .inl he
    ·exact .inr ⟨.inr ⟨he,h1⟩,h2⟩
theorem putAll_perm {p p' es:List (V × V)}{l l':List (V × V)}(hpp:p.Perm p')(hp:AllStr p)(hpn:(p.map ks).Nodup)(h:AllStr es)(hn:(es.map ks).Nodup)(h1:putAll es p=some l)(h2:putAll es p'=some l'):l.Perm l':=by
 obtain⟨a,a1,a2,a3,a4⟩:=putAll_str hp hpn h hn
 obtain⟨b,b1,b2,b3,b4⟩:=putAll_str (p:=p') (λe he=>hp e (hpp.mem_iff.2 he)) ((hpp.map ks).nodup_iff.1 hpn) h hn
 rw[a1]at h1;injection h1 with h1;subst h1
 rw[b1]at h2;injection h2 with h2;subst h2
 have nd:∀{l:List (V × V)},(l.map ks).Nodup->l.Nodup:=λh=>(List.pairwise_map.1 h).imp λh e=>h (by rw[e])
 refine (List.perm_ext_iff_of_nodup (nd a3) (nd b3)).2 λe=>?_
 rw[a4,b4,hpp.mem_iff,(hpp.map ks).mem_iff]
section
variable {E:Env}
def aside (Z:Sg) (d:Nat):Sg:=Z.mapIdx λj o=>if j=d then o else .dead
theorem aside_same {Z:Sg}{d:Nat}:(aside Z d)[d]?=Z[d]?:=by
 simp[aside]
theorem aside_other {Z:Sg}{d j:Nat}{o:O}(h:(aside Z d)[j]?=some o)(hj:j≠d):o=.dead:=by
 simp only[aside,List.getElem?_mapIdx,Option.map_eq_some_iff]at h
 obtain⟨o',_,h⟩:=h
 rw[if_neg hj]at h
 exact h.symm
theorem aside_len (Z:Sg) (d:Nat):(aside Z d).length=Z.length:=by simp[aside]
def Cx.aside (c:Cx) (d:Nat):Cx:={ c with Z:=Ax.aside c.Z d }
theorem aside_live {Z:Sg}{d j:Nat}(h:live (aside Z d) j):j=d/\live Z d:=by
 obtain⟨o,ho,ha⟩:=h
 by_cases e:j=d
 ·subst e
  exact⟨rfl,o,by rw[<- aside_same];exact ho,ha⟩
 ·have:=aside_other ho e
  subst this;cases ha
theorem Cx.aside_sr {c:Cx}(h:SR E c) (d:Nat):SR E (c.aside d)/\Ext c (c.aside d):=by
 have hext:Ext c (c.aside d):=⟨Nat.le_refl _,λk _ ho=>⟨rfl,λ⟨j,hj,e⟩=>by
   obtain⟨rfl,hl⟩:=aside_live hj
   exact ho ⟨j,hl,e⟩⟩,by simp[Cx.aside,aside_len],λ_ _=>rfl,λ_ _=>rfl,λ_ _=>rfl,rfl,rfl,rfl,rfl⟩
 refine⟨⟨λi j hi hj _=>by rw[(aside_live hi).1,(aside_live hj).1],λj o ho=>?_,λj hj=>?_,h.ancLt,gl_ext hext h.gl⟩,hext⟩
 ·by_cases e:j=d
  ·subst e
   have ho':c.Z[j]?=some o:=by rw[<- aside_same];exact ho
   exact (h.obj j o ho').mono hext (List.getElem?_eq_some_iff.1 ho').1 rfl
  ·have:=aside_other ho e
   subst this;exact True.intro
 ·obtain⟨rfl,hl⟩:=aside_live hj
  exact h.anc j hl
theorem SR.restore {c c':Cx}{d:Nat}{o:O}(hs:SR E c)(hlv:live c.Z d)(hx:Ext (c.aside d) c') {σ3:Sg}(hlen:σ3.length=c'.Z.length)
  (hold:∀j,j<c.Z.length->j≠d->σ3[j]?=c.Z[j]?)(hd:σ3[d]?=some o)(hnew:∀j o,c.Z.length<=j->σ3[j]?=some o->o=.dead)
  (hob:Ext c { c' with Z:=σ3 }->ObjR E { c' with Z:=σ3 } d o)(hanc:∀k,c'.anc k->k<c'.w.heap.size):SR E { c' with Z:=σ3 }/\Ext c { c' with Z:=σ3 }:=by
 have hdl:=live_lt hlv
 have hblk:∀j,j<c.Z.length->c'.blk j=c.blk j:=λj hj=>hx.blk j (by simpa [Cx.aside,aside_len]using hj)
 have lv:∀{j},live σ3 j->j<c.Z.length/\live c.Z j:=by
  rintro j ⟨o',ho,ha⟩
  rcases Nat.lt_or_ge j c.Z.length with hj | hj
  ·by_cases e:j=d
   ·subst e;exact⟨hj,hlv⟩
   ·exact⟨hj,o',by rw[<- hold j hj e];exact ho,ha⟩
  ·have:=hnew j o' hj ho
   subst this;cases ha
 have hext:Ext c { c' with Z:=σ3 }:=by
  refine⟨hx.size,λk hk ho=>?_,?_,hblk,λj hj=>hx.tot j (by simpa [Cx.aside,aside_len]using hj),λj hj=>hx.esz j (by simpa [Cx.aside,aside_len]using hj),hx.anc,hx.os,hx.tape,hx.output⟩
  ·have ho':¬ (c.aside d).own k:=λ⟨j,hj,e⟩=>by
    obtain⟨rfl,hl⟩:=aside_live hj
    exact ho ⟨j,hl,e⟩
   refine⟨(hx.keep k hk ho').1,?_⟩
   rintro⟨j,hj,e⟩
   obtain⟨h1,h2⟩:=lv hj
   exact ho ⟨j,h2,by rw[<- hblk j h1];exact e⟩
  ·show c.Z.length<=σ3.length
   rw[hlen]
   simpa [Cx.aside,aside_len]using hx.len
 refine⟨⟨λi j hi hj e=>?_,λj o' ho=>?_,λj hj=>?_,hanc,gl_ext hext hs.gl⟩,hext⟩
 ·obtain⟨i1,i2⟩:=lv hi
  obtain⟨j1,j2⟩:=lv hj
  have e:c'.blk i=c'.blk j:=e
  rw[hblk i i1,hblk j j1]at e
  exact hs.inj i j i2 j2 e
 ·have ho:σ3[j]?=some o':=ho
  rcases Nat.lt_or_ge j c.Z.length with hj | hj
  ·by_cases e:j=d
   ·subst e
    rw[hd]at ho;injection ho with ho;subst ho
    exact hob hext
   ·have ho':c.Z[j]?=some o':=by rw[<- hold j hj e];exact ho
    by_cases hl:live c.Z j
    ·refine (hs.obj j o' ho').mono hext hj ?_
     have hnk:¬ (c.aside d).own (c.blk j):=λ⟨i,hi,h⟩=>by
      obtain⟨rfl,hl'⟩:=aside_live hi
      exact e (hs.inj j i hl hl' h.symm)
     exact (hx.keep _ (hs.lt hl) hnk).1
    ·cases o' with
     |dead=>exact True.intro
     |_=>exact (hl ⟨_,ho',rfl⟩).elim
  ·have:=hnew j o' hj ho
   subst this;exact True.intro
 ·obtain⟨j1,j2⟩:=lv hj
  show ¬ c'.anc (c'.blk j)
  rw[hblk j j1,show c'.anc=c.anc from hx.anc]
  exact hs.anc j j2
theorem plain_vr {c c':Cx}{v:V}{x:Value}(hp:plainCell v=true)(h:VR c v x):VR c' v x:=by
 cases v with
 |bool b=>rw[h.bool_inv];exact .inl (.bool _)
 |int k n=>rw[h.int_inv];exact .inl (.int _ _)
 |str s=>obtain⟨b,rfl,rfl⟩:=h.str_inv;exact .inl (.str _)
 |_=>cases hp
theorem plain_irOf {c:Cx}{w:World}{I:Bool->Nat->Prop}{v:V}{x:Value}(hp:plainCell v=true)(h:VR c v x):IR w I v x:=by
 cases v with
 |bool b=>rw[h.bool_inv];exact .bool _
 |int k n=>rw[h.int_inv];exact .int _ _
 |str s=>obtain⟨b,rfl,rfl⟩:=h.str_inv;exact .str _
 |_=>cases hp
def CopyOk (es:List (V × V)):Prop:=∀e∈es,(∃k,e.1=.str k)/\plainCell e.2=true
theorem copyOk_iff {es:List (V × V)}(h:copyOk es=true):CopyOk es:=by
 intro e he
 simp only[copyOk,List.all_eq_true]at h
 have:=h e he
 simp only[Bool.and_eq_true]at this
 refine⟨?_,this.2⟩
 cases hk:e.1 with
 |str k=>exact⟨k,rfl⟩
 |_=>rw[hk]at this;simp at this
theorem CopyOk.strs {es:List (V × V)}(h:CopyOk es):AllStr es:=λe he=>(h e he).1
theorem MapR.copy {c c':Cx}{es:List (V × V)}{l:List MapEntry}(ho:CopyOk es)(h:MapR c es l):MapR c' es l:=by
 induction h with
 |nil=>exact .nil
 |cons k v es e l hk hv hr ih=>
  obtain⟨⟨s,rfl⟩,hp⟩:=ho _ (List.mem_cons_self ..)
  refine .cons _ _ _ _ _ ?_ (plain_vr hp hv) (ih λe he=>ho e (List.mem_cons_of_mem _ he))
  cases hk with | one hk=>
  exact .one (plain_irOf (c:=c) rfl (.inl hk))
theorem MapR.copyI {c:Cx}{w:World}{I:Bool->Nat->Prop}{es:List (V × V)}{l:List MapEntry}(ho:CopyOk es)(h:MapR c es l):MapsI w I es l:=by
 induction h with
 |nil=>exact .nil
 |cons k v es e l hk hv hr ih=>
  obtain⟨⟨s,rfl⟩,hp⟩:=ho _ (List.mem_cons_self ..)
  refine .cons _ _ _ _ _ ?_ (.one (plain_irOf hp hv)) (ih λe he=>ho e (List.mem_cons_of_mem _ he))
  cases hk with | one hk=>
  exact .one (plain_irOf (c:=c) rfl (.inl hk))
theorem MapR.keys {c:Cx}{es:List (V × V)}{l:List MapEntry}(ho:AllStr es)(h:MapR c es l)(hn:(l.map (·.key)).Nodup):(es.map ks).Nodup:=by
 induction h with
 |nil=>simp
 |cons k v es e l hk hv hr ih=>
  obtain⟨s,hs⟩:=ho (k,v) (List.mem_cons_self ..)
  simp only at hs
  subst hs
  simp only[List.map_cons,List.nodup_cons]at hn ⊢
  refine⟨λhm=>hn.1 ?_,ih (λe he=>ho e (List.mem_cons_of_mem _ he)) hn.2⟩
  obtain⟨x,hx,hxk⟩:=List.mem_map.1 hm
  obtain⟨b,hb,hbs⟩:=(IRa.vr hk).str_inv
  have find:∀{es:List (V × V)}{l:List MapEntry},MapR c es l->x∈es->∃m∈l,IRa c.w c.imm x.1 m.key:=by
   intro es l h
   induction h with
   |nil=>intro hx;cases hx
   |cons k' v' es e' l hk' hv' hr' ih'=>
    intro hx
    rcases List.mem_cons.1 hx with rfl | hx
    ·exact⟨e',List.mem_cons_self ..,hk'⟩
    ·obtain⟨m,h1,h2⟩:=ih' hx
     exact⟨m,List.mem_cons_of_mem _ h1,h2⟩
  obtain⟨m,hm1,hm2⟩:=find hr hx
  obtain⟨s',hs'⟩:=ho x (List.mem_cons_of_mem _ hx)
  rw[hs']at hm2
  obtain⟨b',hb',hbs'⟩:=(IRa.vr hm2).str_inv
  have e1:s'=s:=by
   have:ks x=s:=hxk
   obtain⟨x1,x2⟩:=x
   simp only at hs'
   subst hs'
   exact this
  subst e1
  have:b'=b:=bytes_inj (by rw[hbs,hbs'])
  rw[hb]
  exact List.mem_map.2 ⟨m,hm1,by rw[hb',this]⟩
end
end
end Go.Ax
end
section
namespace Go.Ax
open Go Go.Proofs
section
theorem eqKey_str {E:Env}{t sz by_:Nat}{z:V}(h:E.ty t=some { kd:=.str,size:=sz,bytes:=by_,zero:=z }):eqKey E t=strEq:=by
 funext x y
 unfold eqKey strEq
 rw[h]
 cases x <;> first | rfl | (cases y <;> rfl)
def codeBody:Code->Code
 | .seq _ (.block _ (.loop c))=>c
 |c=>c
section
variable {E:Env}{sz by_ sz9 by9:Nat}{zv z9:V}
theorem plain_ok {v:V}(h:plainCell v=true):okMapVal v=true:=by cases v <;> first | rfl | cases h
theorem copy_round (hty:E.ty 90=some { kd:=.map 9 4,size:=sz,bytes:=by_,zero:=zv })(h9:E.ty 9=some { kd:=.str,size:=sz9,bytes:=by9,zero:=z9 })
  (n:Nat) (fr:Fr)(hn:fr.n=16) (b L:Nat)(hbL:b≠L)(h0:fr.get 0=some (.mp b))(h7:fr.get 7=some (.ref L 0)) (Z:Sg) (left:List (V × V)) (cur:Option (V × V)) (es:List (V × V))(hL:Z[L]?=some (.mit left cur))(hb:Z[b]?=some (.map es)) (Q:X->Fr->Sg->Prop)
  (hok:CopyOk left)
  (h1:left=[]->∀fr,Q (.exit 0) fr Z)
  (h2:∀a e z,left=a++e::z->∃es',mput strEq e.1 e.2 es=some es'/\∀fr:Fr,fr.n=16->fr.get 0=some (.mp b)->fr.get 7=some (.ref L 0)->Q .normal fr ((Z.set L (.mit (a++z) (some e))).set b (.map es'))) :
  wpA E (n+20) (codeBody (fnOf Tryz.f125).code) fr Z Q:=by
 simp only[fnOf,Tryz.f125,Option.getD_some,codeBody]
 have hLs:∀o,(Z.set L o)[L]?=some o:=λo=>by
  have:=(List.getElem?_eq_some_iff.1 hL).1
  simp[this]
 have hLb:∀o,(Z.set L o)[b]?=some (.map es):=λo=>by rw[List.getElem?_set_ne (λe=>hbL e.symm)];exact hb
 simp only[wpA,wpOpsA,isNext,wants,nextA,evalO,h7,hL,if_true,true_and,putS,stepO,opW,comp,Fz.apps,Fz.lits,plainOp,oExtract,oEntry,oMapUpdate,Option.map_some,Fr.get_put,Fr.put_n,hn,h0,List.getElem?_cons_zero,List.getElem?_cons_succ,
  Nat.reduceEqDiff,Nat.reduceLT,and_true,and_false,if_false,reduceCtorEq,hLs,hLb,mapUpdate,hty]
 refine⟨?_,?_⟩
 ·intro hl
  exact h1 hl _
 ·intro a e z' hl
  obtain⟨es',hm,hq⟩:=h2 a e z' hl
  obtain⟨⟨k,hk⟩,hp⟩:=hok e (by rw[hl];simp)
  have hko:keyOk E 9 e.1=true:=by simp only[keyOk,h9,hk]
  have hvo:okMapVal e.2=true:=plain_ok hp
  rw[eqKey_str h9]
  simp only[hko,hvo,Bool.not_true,Bool.or_self,Bool.false_eq_true,if_false,hm,Option.map_some]
  refine hq _ ?_ ?_ ?_ <;> simp only[Fr.get_put,Fr.put_n,hn,h0,h7,Nat.reduceEqDiff,Nat.reduceLT,and_true,and_false,if_false,if_true,reduceCtorEq]
theorem set_snoc (Z:Sg) (x y:O):(Z++[x]).set Z.length y=Z++[y]:=by simp
theorem set_snoc' (Z:Sg) (x y:O) {b:Nat}(h:b<Z.length):(Z++[x]).set b y=Z.set b y++[x]:=by rw[List.set_append_left _ _ h]
theorem copy_loop (hty:E.ty 90=some { kd:=.map 9 4,size:=sz,bytes:=by_,zero:=zv })(h9:E.ty 9=some { kd:=.str,size:=sz9,bytes:=by9,zero:=z9 })
  {es0 src:List (V × V)}(hs0:AllStr es0)(hn0:(es0.map ks).Nodup)(hsrc:CopyOk src)(hns:(src.map ks).Nodup) {b:Nat}{σ0:Sg}(hb:b<σ0.length) :
  ∀(m:Nat) (left p es:List (V × V)) (cur:Option (V × V)) (fr:Fr),left.length=m->(p++left).Perm src->putAll es0 p=some es->fr.n=16->fr.get 0=some (.mp b)->fr.get 7=some (.ref σ0.length 0) ->
   wpA E (m+21) (.loop (codeBody (fnOf Tryz.f125).code)) fr (σ0.set b (.map es)++[.mit left cur]) λx fr Z=>x=.exit 0/\∃es2 p2 cur2,p2.Perm src/\putAll es0 p2=some es2/\Z=σ0.set b (.map es2)++[.mit [] cur2]:=by
 intro m
 induction m with
 |zero=>
  intro left p es cur fr hl hp he hn h0 h7
  have:left=[]:=List.length_eq_zero_iff.1 hl
  subst this
  show wpA E (20+1) _ _ _ _
  rw[wpA]
  refine copy_round hty h9 0 fr hn b σ0.length (by omega) h0 h7 _ [] cur es (by simp) (by rw[List.getElem?_append_left (by simpa using hb)];simp[hb]) _ (λe he=>by cases he) ?_ ?_
  ·intro _ fr'
   exact⟨rfl,es,p,cur,by simpa using hp,he,rfl⟩
  ·intro a e z h
   simp at h
 |succ m ih=>
  intro left p es cur fr hl hp he hn h0 h7
  show wpA E ((m+1)+20+1) _ _ _ _
  rw[wpA]
  have hmem:∀e∈left,e∈src:=λe h=>hp.mem_iff.1 (List.mem_append_right _ h)
  refine copy_round hty h9 (m+1) fr hn b σ0.length (by omega) h0 h7 _ left cur es (by simp) (by rw[List.getElem?_append_left (by simpa using hb)];simp[hb]) _ (λe h=>hsrc e (hmem e h)) ?_ ?_
  ·intro h
   rw[h]at hl
   simp at hl
  ·intro a e z h
   subst h
   have hp2:((p++[e])++(a++z)).Perm src:=by
    refine List.Perm.trans ?_ hp
    rw[List.append_assoc]
    exact List.Perm.append_left p (by simpa using (List.perm_middle (l₁:=a) (a:=e) (l₂:=z)).symm)
   have hpn:((p++[e]).map ks).Nodup:=by
    have:=(hp2.map ks).nodup_iff.2 hns
    rw[List.map_append]at this
    exact (List.nodup_append.1 this).1
   have hps:AllStr (p++[e]):=λx hx=>(hsrc x (hp2.mem_iff.1 (List.mem_append_left _ hx))).1
   obtain⟨l2,g1,g2,g3,_⟩:=putAll_str hps hpn hs0 hn0
   have put1:∀(p:List (V × V)) (es0 es:List (V × V)),putAll es0 p=some es->putAll es0 (p++[e])=mput strEq e.1 e.2 es:=by
    intro p
    induction p with
    |nil=>
     intro es0 es h
     simp only[putAll]at h
     injection h with h;subst h
     simp only[List.nil_append,putAll]
     cases mput strEq e.1 e.2 es0 <;> rfl
    |cons x p ih=>
     intro es0 es h
     simp only[putAll]at h
     simp only[List.cons_append,putAll]
     split at h
     ·exact ih _ _ h
     ·cases h
   have hm:=put1 p es0 es he
   rw[g1]at hm
   refine⟨l2,hm.symm,λfr' k1 k2 k3=>?_⟩
   have:=ih (a++z) (p++[e]) l2 (some e) fr' (by simp at hl ⊢;omega) hp2 g1 k1 k2 k3
   have e1:((σ0.set b (O.map es)++[O.mit (a++e::z) cur]).set σ0.length (O.mit (a++z) (some e))).set b (O.map l2)=σ0.set b (O.map l2)++[O.mit (a++z) (some e)]:=by
    have h1:=set_snoc (σ0.set b (.map es)) (O.mit (a++e::z) cur) (O.mit (a++z) (some e))
    rw[List.length_set]at h1
    rw[h1,set_snoc' _ _ _ (by simpa using hb),List.set_set]
   rw[e1]
   exact this
theorem wpA_mono:∀(n:Nat) {c:Code}{fr:Fr}{Z:Sg}{Q Q':X->Fr->Sg->Prop},wpA E n c fr Z Q->(∀x fr Z,Q x fr Z->Q' x fr Z)->wpA E n c fr Z Q'
 |0,_,_,_,_,_,h,_=>by simp only[wpA]at h
 |n+1,c,fr,Z,Q,Q',h,hq=>by
  have ops:∀(ops:Array Oper) (l:List Oper) (fr:Fr) (Z:Sg),wpOpsA E (ev E n) ops l fr Z (Q .normal)->wpOpsA E (ev E n) ops l fr Z (Q' .normal):=by
   intro ops l
   induction l with
   |nil=>intro fr Z h;exact hq _ _ _ h
   |cons o l ih=>
    intro fr Z h
    simp only[wpOpsA]at h ⊢
    split
    ·rename_i x hx
     rw[hx]at h
     simp only at h
     refine⟨h.1,?_⟩
     have h:=h.2
     unfold nextA at h ⊢
     split
     ·rename_i bb hbb
      rw[hbb]at h
      simp only at h
      split
      ·rename_i lf cu hlf
       rw[hlf]at h
       exact⟨λe=>ih _ _ (h.1 e),λa e z e'=>ih _ _ (h.2 a e z e')⟩
      ·rename_i hne
       split at h
       ·rename_i lf cu hlf
        exact (hne _ _ hlf).elim
       ·exact h
     ·rename_i hne
      split at h
      ·rename_i bb hbb
       exact (hne _ hbb).elim
      ·exact h
    ·rename_i hx
     rw[hx]at h
     simp only at h
     split
     ·rename_i fr' σ' hst
      rw[hst]at h
      exact ih _ _ h
     ·rename_i hst
      rw[hst]at h
      exact h
  cases c with
  |skip=>simp only[wpA]at h ⊢;exact hq _ _ _ h
  |exit id=>simp only[wpA]at h ⊢;exact hq _ _ _ h
  |ret=>simp only[wpA]at h ⊢;exact hq _ _ _ h
  |seq a b=>
   rw[wpA]at h ⊢
   refine wpA_mono n h ?_
   intro x fr Z hx
   cases x with
   |normal=>exact wpA_mono n hx hq
   |exit id=>exact hq _ _ _ hx
   |ret=>exact hq _ _ _ hx
  |cond x y z=>
   simp only[wpA]at h ⊢
   split
   ·rename_i hc;rw[hc]at h;exact wpA_mono n h hq
   ·rename_i hc;rw[hc]at h;exact wpA_mono n h hq
   ·rename_i h1 h2
    split at h
    ·rename_i hc;exact (h1 hc).elim
    ·rename_i hc;exact (h2 hc).elim
    ·exact h
  |block id a=>
   rw[wpA]at h ⊢
   refine wpA_mono n h ?_
   intro x fr Z hx
   cases x with
   |normal=>exact hq _ _ _ hx
   |exit id'=>
    simp only at hx ⊢
    split
    ·rename_i e;rw[if_pos e]at hx;exact hq _ _ _ hx
    ·rename_i e;rw[if_neg e]at hx;exact hq _ _ _ hx
   |ret=>exact hq _ _ _ hx
  |loop a=>
   rw[wpA]at h ⊢
   refine wpA_mono n h ?_
   intro x fr Z hx
   cases x with
   |normal=>exact wpA_mono n hx hq
   |exit id=>exact hq _ _ _ hx
   |ret=>exact hq _ _ _ hx
  |region id ops' draw=>
   simp only[wpA]at h ⊢
   cases draw with
   |true=>
    simp only at h ⊢
    split
    ·rename_i hd;rw[hd]at h;exact hq _ _ _ h
    ·rename_i hd;rw[hd]at h;exact h
   |false=>exact ops _ _ _ _ h
  |_=>simp only[wpA]at h
def codeHead:Code->Code
 | .seq r _=>r
 |c=>c
theorem copy_head (hty:E.ty 90=some { kd:=.map 9 4,size:=sz,bytes:=by_,zero:=zv }) (n:Nat) {fr0:Fr}(hn:fr0.n=16) {b:Nat}(h0:fr0.get 0=some (.mp b)) {y:V}(h1:fr0.get 1=some y) {src:List (V × V)}(hy:(∃g,y=.imp g src)\/(y=.nilm/\src=[])) {σ0:Sg}
  {Q:X->Fr->Sg->Prop}(hq:∀fr:Fr,fr.n=16->fr.get 0=some (.mp b)->fr.get 7=some (.ref σ0.length 0)->Q .normal fr (σ0++[.mit src none])):wpA E (n+1) (codeHead (fnOf Tryz.f125).code) fr0 σ0 Q:=by
 simp only[fnOf,Tryz.f125,Option.getD_some,codeHead]
 rcases hy with⟨g,rfl⟩ | ⟨rfl,rfl⟩
 ·simp only[wpA,wpOpsA,isNext,wants,evalO,if_true,putS,stepO,opW,comp,Fz.apps,Fz.lits,plainOp,oRange,Option.map_some,Fr.get_put,Fr.put_n,hn,h0,h1,Nat.reduceEqDiff,Nat.reduceLT,and_true,and_false,if_false,reduceCtorEq,hty]
  refine hq _ ?_ ?_ ?_ <;> simp only[Fr.get_put,Fr.put_n,hn,h0,Nat.reduceEqDiff,Nat.reduceLT,and_true,and_false,if_false,if_true,reduceCtorEq]
 ·simp only[wpA,wpOpsA,isNext,wants,evalO,if_true,putS,stepO,opW,comp,Fz.apps,Fz.lits,plainOp,oRange,Option.map_some,Fr.get_put,Fr.put_n,hn,h0,h1,Nat.reduceEqDiff,Nat.reduceLT,and_true,and_false,if_false,reduceCtorEq,hty]
  refine hq _ ?_ ?_ ?_ <;> simp only[Fr.get_put,Fr.put_n,hn,h0,Nat.reduceEqDiff,Nat.reduceLT,and_true,and_false,if_false,if_true,reduceCtorEq]
theorem copy_enters (hty:E.ty 90=some { kd:=.map 9 4,size:=sz,bytes:=by_,zero:=zv })(h9:E.ty 9=some { kd:=.str,size:=sz9,bytes:=by9,zero:=z9 })
  {es0 src:List (V × V)}(hs0:AllStr es0)(hn0:(es0.map ks).Nodup)(hsrc:CopyOk src)(hns:(src.map ks).Nodup) {b:Nat}{σ0:Sg}(hb:σ0[b]?=some (.map es0)) {y:V}(hy:(∃g,y=.imp g src)\/(y=.nilm/\src=[])) :
  entersA E (src.length+23) (fnOf Tryz.f125) [.mp b,y] σ0 λv Z=>v=.tup []/\∃es2 p2 cur2,p2.Perm src/\putAll es0 p2=some es2/\Z=σ0.set b (.map es2)++[.mit [] cur2]:=by
 have hbl:b<σ0.length:=(List.getElem?_eq_some_iff.1 hb).1
 have hset:σ0.set b (.map es0)=σ0:=by
  apply List.ext_getElem?
  intro j
  by_cases e:b=j
  ·subst e;rw[hb];simp[hbl]
  ·rw[List.getElem?_set_ne e]
 obtain⟨fr0,hfr0⟩:∃fr0,Fr.init (fnOf Tryz.f125).ntmps [V.mp b,y]=some fr0:=⟨_,rfl⟩
 have hn:fr0.n=16:=by injection hfr0 with h;rw[<- h];rfl
 have h0:fr0.get 0=some (.mp b):=by injection hfr0 with h;rw[<- h];rfl
 have h1:fr0.get 1=some y:=by injection hfr0 with h;rw[<- h];rfl
 refine⟨fr0,hfr0,?_⟩
 show wpA E ((src.length+22)+1) (.seq (codeHead (fnOf Tryz.f125).code) (.block 0 (.loop (codeBody (fnOf Tryz.f125).code)))) _ _ _
 rw[wpA]
 refine copy_head hty (src.length+21) hn h0 h1 hy λfr k1 k2 k3=>?_
 show wpA E ((src.length+21)+1) _ _ _ _
 rw[wpA]
 have:=copy_loop hty h9 hs0 hn0 hsrc hns hbl (src.length) src [] es0 none fr rfl (by simp) rfl k1 k2 k3
 rw[hset]at this
 refine wpA_mono _ this ?_
 rintro x fr' σ' ⟨rfl,es2,p2,cur2,g1,g2,g3⟩
 simp only[if_true]
 exact⟨by simp,[],rfl,rfl,es2,p2,cur2,g1,g2,g3⟩
end
theorem hCopy_ok {E:Env}(he:EnvOk Tryz.prog E)(hfs:FnsOk Tryz.prog E)(hmix:Tryz.prog.follows .mixedOrders=true)(hF:E.fn 125=some (fnOf Tryz.f125)) {sz by_ sz9 by9:Nat}{zv z9:V}
  (hty:E.ty 90=some { kd:=.map 9 4,size:=sz,bytes:=by_,zero:=zv })(h9:E.ty 9=some { kd:=.str,size:=sz9,bytes:=by9,zero:=z9 }):HspecOk Tryz.prog E 125 hCopy:=by
 intro c vs xs v σ' hs hv h
 unfold hCopy at h
 split at h
 case h_2=>cases h
 rename_i b y
 split at h
 case h_2=>cases h
 rename_i es0 src hob hent
 split at h
 case h_2=>cases h
 rename_i l hok hne hput
 injection h with h;injection h with e1 e2;subst e1 e2
 simp only[Bool.and_eq_true]at hok
 have ho0:=copyOk_iff hok.1
 have ho1:=copyOk_iff hok.2
 have hlv:live c.Z b:=⟨_,hob,rfl⟩
 have hbl:=live_lt hlv
 obtain⟨hs1,hx1⟩:=Cx.aside_sr hs b
 have hob1:(c.aside b).Z[b]?=some (.map es0):=by rw[<- hob];exact aside_same
 obtain⟨en0,cl0,g1,g2,l0,g3,g4⟩:=hs.obj b _ hob
 have hn0:(es0.map ks).Nodup:=g4.keys ho0.strs ((g3.map _).nodup_iff.2 g2.st.2.2)
 cases hv with | cons _ x _ xs hx hr=>
 cases hr with | cons _ yv _ ys hyv hr=>
 cases hr
 obtain⟨y',hy',hyv',hns⟩:∃y',((∃g,y'=.imp g src)\/(y'=.nilm/\src=[]))/\VR (c.aside b) y' yv/\(src.map ks).Nodup:=by
  unfold entriesOf at hent
  split at hent
  ·injection hent with hent;subst hent
   exact⟨.nilm,.inr ⟨rfl,rfl⟩,hyv.mono hx1,by simp⟩
  ·rename_i g es
   injection hent with hent;subst hent
   obtain⟨blk,en,cl,l1,rfl,hi,hh,hm,hp,hmr⟩:=hyv.imp_inv
   exact⟨_,.inl ⟨g,rfl⟩,hyv.mono hx1,hmr.mapR.keys ho1.strs ((hp.map _).nodup_iff.2 hm.st.2.2)⟩
  ·rename_i b'
   split at hent
   ·rename_i es hob'
    injection hent with hent;subst hent
    obtain⟨rfl,hb'⟩:=hyv.mp_inv
    obtain⟨en,cl,k1,k2,l1,k3,k4⟩:=hs.obj b' _ hob'
    have hne':b≠b':=by
     simp only[Bool.not_eq_true']at hne
     exact Nat.ne_of_beq_eq_false hne
    refine⟨.imp false es,.inl ⟨false,rfl⟩,.inl (.imp false es _ en cl l1 ⟨heap_lt k1,?_,λ_=>hs.anc b' ⟨_,hob',rfl⟩⟩ k1 k2 k3 (k4.copyI ho1)),k4.keys ho1.strs ((k3.map _).nodup_iff.2 k2.st.2.2)⟩
    rintro⟨j,hj,e⟩
    obtain⟨rfl,_⟩:=aside_live hj
    exact hne' (hs.inj _ _ hlv ⟨_,hob',rfl⟩ e)
   ·cases hent
  ·cases hent
 refine runs_of_calls hfs hF ?_
 have hargs:VRs (c.aside b) [.mp b,y'] [x,yv]:=.cons _ _ _ _ (hx.mono hx1) (.cons _ _ _ _ hyv' .nil)
 refine (entersA_sound he hfs hmix hF hs1 hargs (copy_enters hty h9 ho0.strs hn0 ho1 hns hob1 hy')).mono ?_
 rintro e w' ⟨r,u,σ1,rfl,⟨rfl,es2,p2,cur2,q1,q2,q3⟩,c',rfl,hσ,hx',hs',hr'⟩
 subst q3
 refine⟨r,rfl,?_⟩
 obtain⟨l2,q4,q5,q6,q7⟩:=putAll_str (p:=p2) (λe he=>ho1.strs e (q1.mem_iff.1 he)) ((q1.map ks).nodup_iff.2 hns) ho0.strs hn0
 rw[q2]at q4;injection q4 with q4;subst q4
 have ho2:CopyOk es2:=λe he=>by
  rcases (q7 e).1 he with he | ⟨he,_⟩
  ·exact ho1 e (q1.mem_iff.1 he)
  ·exact ho0 e he
 have hperm:es2.Perm l:=putAll_perm q1 (λe he=>ho1.strs e (q1.mem_iff.1 he)) ((q1.map ks).nodup_iff.2 hns) ho0.strs hn0 q2 hput
 have hlen1:(c.aside b).Z.length=c.Z.length:=aside_len _ _
 have hdob:c'.Z[b]?=some (.map es2):=by
  rw[hσ,List.getElem?_append_left (by rw[List.length_set,hlen1];exact hbl)]
  simp[hlen1,hbl]
 obtain⟨en,cl,k1,k2,l3,k3,k4⟩:=hs'.obj b _ hdob
 obtain⟨r1,r2⟩:=SR.restore (o:=.map l) (σ3:=c.Z.set b (.map l)++[.dead]) hs hlv hx' (by rw[hσ];simp[hlen1]) (λj hj hjb=>by
   rw[List.getElem?_append_left (by simpa using hj),List.getElem?_set_ne (λe=>hjb e.symm)]) (by
   rw[List.getElem?_append_left (by simpa using hbl)];simp[hbl]) (λj o hj ho=>by
   rw[List.getElem?_append_right (by simpa using hj)]at ho
   rcases Nat.eq_zero_or_pos (j-(c.Z.set b (.map l)).length) with h0 | h0
   ·rw[h0]at ho;simpa using ho.symm
   ·rw[List.getElem?_eq_none (by simp at h0 ⊢;omega)]at ho;cases ho) (λ_=>by
   obtain⟨l4,m1,m2⟩:=k4.perm hperm
   refine⟨en,cl,k1,k2,l4,m1.symm.trans k3,m2.copy λe he=>ho2 e (hperm.mem_iff.2 he)⟩) hs'.ancLt
 exact⟨{ c' with Z:=c.Z.set b (.map l)++[.dead] },rfl,rfl,r2,r1,by
  obtain⟨ys,rfl,hys⟩:=hr'.tup_inv
  cases hys
  exact .tup [] [] .nil⟩
end
end Go.Ax
end
section
namespace Go.Ax
open Go
theorem seq_iff {a b:List Nat}:seq a b=true ↔ a=b:=by rw[seq_eq,decide_eq_true_eq]
theorem seq_false {a b:List Nat}:seq a b=false ↔ a≠b:=by rw[seq_eq,decide_eq_false_iff_not]
theorem mem_iff' {s:List Nat}:∀{l:List (List Nat)},mem s l=true ↔ s∈l
 | []=>by simp[mem]
 |a::r=>by
  simp only[mem]
  cases h:seq a s with
  |true=>rw[seq_iff]at h;simp[h]
  |false=>rw[seq_false]at h;simp[mem_iff' (l:=r),h.symm]
theorem anyIn_iff {m:List (List Nat)}:∀{l:List (List Nat)},anyIn l m=true ↔ ∃a∈l,a∈m
 | []=>by simp[anyIn]
 |a::r=>by
  simp only[anyIn]
  cases h:mem a m with
  |true=>rw[mem_iff']at h;simp[h]
  |false=>
   have:a ∉ m:=λg=>by rw[<- mem_iff',h]at g;cases g
   simp[anyIn_iff (l:=r),this]
def SV (v:V) (l:List (List Nat)):Prop:=(v=.nils/\l=[])\/∃g full,v=.isl g (l.map λs=>[V.str s]) full
def BackOk (es:List (V × V)):Prop:=∀e∈es,(∃k,e.1=.str k)/\SV e.2 (listOf e.2)
theorem strRows_sv:∀{xs:List (List V)},strRows xs=true->xs=(rowStrs xs).map λs=>[V.str s]:=by
 intro xs
 fun_induction strRows xs with
 |case1=>intro _;rfl
 |case2 s r ih=>intro h;simp only[rowStrs,List.map_cons,<- ih h]
 |case3=>intro h;cases h
theorem backOk_iff {es:List (V × V)}:backOk es=true->BackOk es:=by
 fun_induction backOk es with
 |case1=>intro _ e he;cases he
 |case2 k g xs f r h ih=>
  intro h' e he
  rcases List.mem_cons.1 he with rfl | he
  ·rw[Bool.and_eq_true]at h
   exact⟨⟨k,rfl⟩,.inr ⟨g,f,by simp only[listOf];rw[<- strRows_sv h.1]⟩⟩
  ·exact ih h' e he
 |case3=>intro h;cases h
 |case4 k r ih=>
  intro h' e he
  rcases List.mem_cons.1 he with rfl | he
  ·exact⟨⟨k,rfl⟩,.inl ⟨rfl,rfl⟩⟩
  ·exact ih h' e he
 |case5=>intro h;cases h
theorem rowStrs_len:∀xs:List (List V),(rowStrs xs).length<=xs.length:=by
 intro xs
 fun_induction rowStrs xs with
 |case1 s r ih=>simp only[List.length_cons];omega
 |case2=>simp
theorem backOk_len {es:List (V × V)}:backOk es=true->∀e∈es,(listOf e.2).length<=1000000:=by
 fun_induction backOk es with
 |case1=>intro _ e he;cases he
 |case2 k g xs f r h ih=>
  intro h' e he
  rcases List.mem_cons.1 he with rfl | he
  ·rw[Bool.and_eq_true,Nat.ble_eq]at h
   have:=rowStrs_len xs
   simp only[listOf]
   omega
  ·exact ih h' e he
 |case3=>intro h;cases h
 |case4 k r ih=>
  intro h' e he
  rcases List.mem_cons.1 he with rfl | he
  ·simp[listOf]
  ·exact ih h' e he
 |case5=>intro h;cases h
theorem BackOk.tail {e:V × V}{es:List (V × V)}(h:BackOk (e::es)):BackOk es:=λx hx=>h x (List.mem_cons_of_mem _ hx)
theorem hasKey_iff {k:List Nat}{es:List (V × V)}:nodupKeys.hasKey k es=false->AllStr es->k ∉ es.map ks:=by
 fun_induction nodupKeys.hasKey k es with
 |case1=>intro _ _;simp
 |case2=>intro h;cases h
 |case3 k' v r h ih=>
  intro h' ha
  rw[seq_false]at h
  simp only[List.map_cons,List.mem_cons,not_or]
  exact⟨λe=>h (by rw[e];rfl),ih h' λe he=>ha e (List.mem_cons_of_mem _ he)⟩
 |case4 x r hx ih=>
  intro h' ha
  obtain⟨q,hq⟩:=ha x (List.mem_cons_self ..)
  obtain⟨x1,x2⟩:=x
  simp only at hq
  subst hq
  exact (hx _ _ rfl).elim
theorem nodupKeys_iff {es:List (V × V)}:nodupKeys es=true->AllStr es->(es.map ks).Nodup:=by
 fun_induction nodupKeys es with
 |case1=>intro _ _;simp
 |case2=>intro h;cases h
 |case3 k v r h ih=>
  intro h' ha
  have hr:AllStr r:=λe he=>ha e (List.mem_cons_of_mem _ he)
  simp only[List.map_cons,List.nodup_cons]
  exact⟨hasKey_iff h hr,ih h' hr⟩
 |case4=>intro h;cases h
def valOf (es:List (V × V)) (x:List Nat):V:=
 match es with
 |(.str k,v)::r=>match seq k x with
  |true=>v
  |false=>valOf r x
 |_::r=>valOf r x
 | []=>.nils
theorem valOf_sv {x:List Nat}:∀{es:List (V × V)},BackOk es->SV (valOf es x) (nextOf es x)
 | [],_=>.inl ⟨rfl,rfl⟩
 |(k',v)::es,h=>by
  obtain⟨⟨k,hk⟩,hv⟩:=h _ (List.mem_cons_self ..)
  simp only at hk hv
  subst hk
  simp only[valOf,nextOf]
  cases seq k x with
  |true=>exact hv
  |false=>exact valOf_sv h.tail
theorem find_all {x:List Nat}:∀{es:List (V × V)},BackOk es->∃r,mfind strEq (.str x) es=some r/\r.getD .nils=valOf es x
 | [],_=>⟨none,rfl,rfl⟩
 |(k',v)::es,h=>by
  obtain⟨⟨k,hk⟩,hv⟩:=h _ (List.mem_cons_self ..)
  simp only at hk hv
  subst hk
  have e:strEq (.str x) (.str k)=some (seq k x):=by
   simp only[strEq,seq_eq]
   exact congrArg some (decide_eq_decide.2 ⟨λh=>h.symm,λh=>h.symm⟩)
  simp only[mfind,e,valOf]
  cases seq k x with
  |true=>exact⟨some v,rfl,rfl⟩
  |false=>exact find_all h.tail
theorem nextOf_mem {es:List (V × V)}(h:BackOk es)(hn:(es.map ks).Nodup) {k:List Nat}{v:V}(he:(V.str k,v)∈es):nextOf es k=listOf v:=by
 induction es with
 |nil=>cases he
 |cons e es ih=>
  obtain⟨k',v'⟩:=e
  obtain⟨⟨q,hq⟩,_⟩:=h _ (List.mem_cons_self ..)
  simp only at hq
  subst hq
  simp only[List.map_cons,List.nodup_cons]at hn
  simp only[nextOf]
  rcases List.mem_cons.1 he with he | he
  ·injection he with h1 h2
   injection h1 with h1
   subst h1 h2
   rw[show seq k k=true from seq_iff.2 rfl]
  ·have:q≠k:=λe=>hn.1 (by rw[show ks (V.str q,v')=q from rfl,e];exact List.mem_map.2 ⟨_,he,rfl⟩)
   rw[show seq q k=false from seq_false.2 this]
   exact ih h.tail hn.2 he
theorem next_key {es:List (V × V)}(h:BackOk es) {x nx:List Nat}(hx:nx∈nextOf es x):∃v,(V.str x,v)∈es/\nx∈listOf v:=by
 induction es with
 |nil=>cases hx
 |cons e es ih=>
  obtain⟨k',v'⟩:=e
  obtain⟨⟨q,hq⟩,_⟩:=h _ (List.mem_cons_self ..)
  simp only at hq
  subst hq
  simp only[nextOf]at hx
  cases hs:seq q x with
  |true=>
   rw[hs]at hx
   rw[seq_iff]at hs
   subst hs
   exact⟨v',List.mem_cons_self ..,hx⟩
  |false=>
   rw[hs]at hx
   obtain⟨v,h1,h2⟩:=ih h.tail hx
   exact⟨v,List.mem_cons_of_mem _ h1,h2⟩
inductive Rch (es:List (V × V)) (f:List Nat):Nat->List Nat->Prop
 |zero:Rch es f 0 f
 |succ {k:Nat}{x nx:List Nat}(h:nx∈nextOf es x)(hr:Rch es f k nx):Rch es f (k+1) x
theorem mem_layer {es:List (V × V)}(h:BackOk es)(hn:(es.map ks).Nodup) {m:List (List Nat)}{x:List Nat}:x∈layer m es ↔ ∃nx∈nextOf es x,nx∈m:=by
 have key:∀{l:List (V × V)},BackOk l->(x∈layer m l ↔ ∃v,(V.str x,v)∈l/\∃nx∈listOf v,nx∈m):=by
  intro l
  induction l with
  |nil=>intro _;simp[layer]
  |cons e l ih=>
   intro h
   obtain⟨k',v'⟩:=e
   obtain⟨⟨q,hq⟩,_⟩:=h _ (List.mem_cons_self ..)
   simp only at hq
   subst hq
   simp only[layer]
   have ih:=ih h.tail
   cases ha:anyIn (listOf v') m with
   |true=>
    rw[anyIn_iff]at ha
    simp only[List.mem_cons,ih]
    constructor
    ·rintro (rfl | ⟨v,h1,h2⟩)
     ·exact⟨v',.inl rfl,ha⟩
     ·exact⟨v,.inr h1,h2⟩
    ·rintro⟨v,h1 | h1,h2⟩
     ·injection h1 with h1 _;injection h1 with h1;exact .inl h1
     ·exact .inr ⟨v,h1,h2⟩
   |false=>
    have hna:¬ ∃a∈listOf v',a∈m:=λg=>by rw[<- anyIn_iff,ha]at g;cases g
    rw[ih]
    constructor
    ·rintro⟨v,h1,h2⟩;exact⟨v,List.mem_cons_of_mem _ h1,h2⟩
    ·rintro⟨v,h1,h2⟩
     rcases List.mem_cons.1 h1 with h1 | h1
     ·injection h1 with _ h1;subst h1;exact absurd h2 hna
     ·exact⟨v,h1,h2⟩
 rw[key h]
 constructor
 ·rintro⟨v,h1,nx,h2,h3⟩
  exact⟨nx,by rw[nextOf_mem h hn h1];exact h2,h3⟩
 ·rintro⟨nx,h1,h2⟩
  obtain⟨v,h3,h4⟩:=next_key h h1
  exact⟨v,h3,nx,h4,h2⟩
theorem layers_get {es:List (V × V)}:∀(n:Nat) (m:List (List Nat)),(layers es n m).length=n+1/\(layers es n m)[0]?=some m/\∀j l,(layers es n m)[j]?=some l->j<n->(layers es n m)[j+1]?=some (layer l es)
 |0,m=>⟨rfl,rfl,λj l h hj=>by omega⟩
 |n+1,m=>by
  obtain⟨h1,h2,h3⟩:=layers_get (es:=es) n (layer m es)
  refine⟨by simp[layers,h1],rfl,λj l h hj=>?_⟩
  cases j with
  |zero=>
   simp only[layers,List.getElem?_cons_zero]at h
   injection h with h;subst h
   simpa [layers]using h2
  |succ j=>
   simp only[layers,List.getElem?_cons_succ]at h ⊢
   exact h3 j l h (by omega)
theorem layers_rch {es:List (V × V)}(h:BackOk es)(hn:(es.map ks).Nodup) (f:List Nat) (n:Nat):∀(j:Nat) (l:List (List Nat)),(layers es n [f])[j]?=some l->∀x,x∈l ↔ Rch es f j x:=by
 intro j
 obtain⟨h1,h2,h3⟩:=layers_get (es:=es) n [f]
 induction j with
 |zero=>
  intro l hl x
  rw[h2]at hl
  injection hl with hl;subst hl
  simp only[List.mem_singleton]
  constructor
  ·rintro rfl;exact .zero
  ·intro hr;cases hr;rfl
 |succ j ih=>
  intro l hl x
  have hj:j+1<n+1:=by rw[<- h1];exact (List.getElem?_eq_some_iff.1 hl).1
  obtain⟨l0,hl0⟩:∃l0,(layers es n [f])[j]?=some l0:=⟨_,List.getElem?_eq_getElem (by omega)⟩
  rw[h3 j l0 hl0 (by omega)]at hl
  injection hl with hl;subst hl
  rw[mem_layer h hn]
  constructor
  ·rintro⟨nx,g1,g2⟩;exact .succ g1 ((ih l0 hl0 nx).1 g2)
  ·intro hr
   cases hr with | succ g1 g2=>exact⟨_,g1,(ih l0 hl0 _).2 g2⟩
theorem distIn_some {s:List Nat}:∀{L:List (List (List Nat))}{k:Nat},distIn s L=some k->(∃l,L[k]?=some l/\s∈l)/\∀j l,j<k->L[j]?=some l->s ∉ l
 | [],_,h=>by cases h
 |m::L,k,h=>by
  simp only[distIn]at h
  cases hm:mem s m with
  |true=>
   rw[hm]at h
   injection h with h;subst h
   exact⟨⟨m,rfl,mem_iff'.1 hm⟩,λj l hj=>by omega⟩
  |false=>
   rw[hm]at h
   have hne:s ∉ m:=λg=>by rw[<- mem_iff',hm]at g;cases g
   cases hd:distIn s L with
   |none=>rw[hd]at h;cases h
   |some k'=>
    rw[hd]at h
    injection h with h;subst h
    obtain⟨⟨l,h1,h2⟩,h3⟩:=distIn_some hd
    refine⟨⟨l,by simpa using h1,h2⟩,λj l hj hl=>?_⟩
    cases j with
    |zero=>simp at hl;subst hl;exact hne
    |succ j=>exact h3 j l (by omega) (by simpa using hl)
theorem distIn_none {s:List Nat}:∀{L:List (List (List Nat))},distIn s L=none->∀l∈L,s ∉ l
 | [],_,l,hl=>by cases hl
 |m::L,h,l,hl=>by
  simp only[distIn]at h
  cases hm:mem s m with
  |true=>rw[hm]at h;cases h
  |false=>
   rw[hm]at h
   have hne:s ∉ m:=λg=>by rw[<- mem_iff',hm]at g;cases g
   cases hd:distIn s L with
   |some k'=>rw[hd]at h;cases h
   |none=>
    rcases List.mem_cons.1 hl with rfl | hl
    ·exact hne
    ·exact distIn_none hd l hl
def distF (es:List (V × V)) (f x:List Nat):Option Nat:=distIn x (layers es es.length [f])
theorem distF_some {es:List (V × V)}(h:BackOk es)(hn:(es.map ks).Nodup) {f x:List Nat}{k:Nat}:distF es f x=some k ↔ k<=es.length/\Rch es f k x/\∀j,j<k->¬ Rch es f j x:=by
 obtain⟨h1,h2,h3⟩:=layers_get (es:=es) es.length [f]
 have get:∀j,j<=es.length->∃l,(layers es es.length [f])[j]?=some l:=λj hj=>⟨_,List.getElem?_eq_getElem (by omega)⟩
 constructor
 ·intro hd
  obtain⟨⟨l,g1,g2⟩,g3⟩:=distIn_some hd
  have hk:k<es.length+1:=by rw[<- h1];exact (List.getElem?_eq_some_iff.1 g1).1
  refine⟨by omega,(layers_rch h hn f _ k l g1 x).1 g2,λj hj hr=>?_⟩
  obtain⟨l',hl'⟩:=get j (by omega)
  exact g3 j l' hj hl' ((layers_rch h hn f _ j l' hl' x).2 hr)
 ·rintro⟨hk,hr,hmin⟩
  obtain⟨l,hl⟩:=get k hk
  cases hd:distF es f x with
  |none=>exact absurd ((layers_rch h hn f _ k l hl x).2 hr) (distIn_none hd l (List.mem_of_getElem? hl))
  |some k'=>
   obtain⟨⟨l',g1,g2⟩,g3⟩:=distIn_some hd
   have hr':=(layers_rch h hn f _ k' l' g1 x).1 g2
   rcases Nat.lt_trichotomy k k' with c | c | c
   ·exact absurd ((layers_rch h hn f _ k l hl x).2 hr) (g3 k l c hl)
   ·rw[c]
   ·exact absurd hr' (hmin k' c)
def FarOk (fe:List (V × V)):Prop:=∀e∈fe,∃(k:List Nat) (n:Nat),e=(.str k,.int .i64 (n:Int))
def far:List (V × V)->List Nat->Option Nat
 |(.str k,.int _ n)::r,x=>match seq k x with
  |true=>some n.toNat
  |false=>far r x
 |_::r,x=>far r x
 | [],_=>none
theorem FarOk.tail {e:V × V}{es:List (V × V)}(h:FarOk (e::es)):FarOk es:=λx hx=>h x (List.mem_cons_of_mem _ hx)
theorem FarOk.strs {fe:List (V × V)}(h:FarOk fe):AllStr fe:=λe he=>by obtain⟨k,n,rfl⟩:=h e he;exact⟨k,rfl⟩
theorem far_find {x:List Nat}:∀{fe:List (V × V)},FarOk fe->mfind strEq (.str x) fe=some (Option.map (λn:Nat=>V.int .i64 (n:Int)) (far fe x))
 | [],_=>rfl
 |e::fe,h=>by
  obtain⟨k,n,rfl⟩:=h e (List.mem_cons_self ..)
  have e:strEq (.str x) (.str k)=some (seq k x):=by
   simp only[strEq,seq_eq]
   exact congrArg some (decide_eq_decide.2 ⟨λh=>h.symm,λh=>h.symm⟩)
  simp only[mfind,e,far]
  cases seq k x with
  |true=>rfl
  |false=>exact far_find h.tail
theorem far_mem {x:List Nat}:∀{fe:List (V × V)},FarOk fe->((far fe x).isSome=true ↔ x∈fe.map ks)
 | [],_=>by simp[far]
 |e::fe,h=>by
  obtain⟨k,n,rfl⟩:=h e (List.mem_cons_self ..)
  simp only[far,List.map_cons,List.mem_cons]
  cases hs:seq k x with
  |true=>rw[seq_iff]at hs;simp[hs,ks]
  |false=>
   rw[seq_false]at hs
   simp only
   rw[far_mem h.tail]
   simp only[ks]
   exact⟨.inr,λg=>g.resolve_left λe=>hs e.symm⟩
theorem far_put {x:List Nat}{m:Nat}:∀{fe:List (V × V)},FarOk fe->∃fe',mput strEq (.str x) (.int .i64 (m:Int)) fe=some fe'/\FarOk fe'/\(∀y,far fe' y=if y=x then some m else far fe y) /\
  fe'.map ks=(if x∈fe.map ks then fe.map ks else fe.map ks++[x])
 | [],_=>⟨[(.str x,.int .i64 (m:Int))],rfl,λe he=>by simp at he;subst he;exact⟨x,m,rfl⟩,λy=>by
   simp only[far]
   cases hs:seq x y with
   |true=>rw[seq_iff]at hs;simp[hs]
   |false=>rw[seq_false]at hs;simp[hs.symm],by simp[ks]⟩
 |e::fe,h=>by
  obtain⟨k,n,rfl⟩:=h e (List.mem_cons_self ..)
  have e:strEq (.str x) (.str k)=some (seq k x):=by
   simp only[strEq,seq_eq]
   exact congrArg some (decide_eq_decide.2 ⟨λh=>h.symm,λh=>h.symm⟩)
  cases hs:seq k x with
  |true=>
   rw[hs]at e
   rw[seq_iff]at hs
   subst hs
   refine⟨(.str k,.int .i64 (m:Int))::fe,by simp only[mput,e],λe he=>?_,λy=>?_,by simp[ks]⟩
   ·rcases List.mem_cons.1 he with rfl | he
    ·exact⟨k,m,rfl⟩
    ·exact h.tail e he
   ·simp only[far]
    cases hs:seq k y with
    |true=>rw[seq_iff]at hs;simp[hs]
    |false=>rw[seq_false]at hs;simp[hs.symm]
  |false=>
   rw[hs]at e
   rw[seq_false]at hs
   obtain⟨fe',h1,h2,h3,h4⟩:=far_put (x:=x) (m:=m) h.tail
   refine⟨(.str k,.int .i64 (n:Int))::fe',by simp only[mput,e,h1],λe he=>?_,λy=>?_,?_⟩
   ·rcases List.mem_cons.1 he with rfl | he
    ·exact⟨k,n,rfl⟩
    ·exact h2 e he
   ·simp only[far]
    cases hk:seq k y with
    |true=>rw[seq_iff]at hk;subst hk;simp[hs]
    |false=>simp only[h3]
   ·simp only[List.map_cons,h4,ks,List.mem_cons,hs.symm,false_or]
    split <;> simp
theorem nodup_len:∀{a b:List (List Nat)},a.Nodup->(∀x∈a,x∈b)->a.length<=b.length
 | [],_,_,_=>by simp
 |x::a,b,hn,hs=>by
  rw[List.nodup_cons]at hn
  have hx:x∈b:=hs x (List.mem_cons_self ..)
  have:=nodup_len (a:=a) (b:=b.erase x) hn.2 λy hy=>by
   have hne:y≠x:=λe=>hn.1 (by rw[<- e];exact hy)
   exact (List.mem_erase_of_ne hne).2 (hs y (List.mem_cons_of_mem _ hy))
  rw[List.length_erase_of_mem hx]at this
  have hb:0<b.length:=List.length_pos_of_mem hx
  simp only[List.length_cons]
  omega
structure Far (es:List (V × V)) (f:List Nat) (fe:List (V × V)):Prop where
 ok:FarOk fe
 zero:far fe f=some 0
 rch:∀x k,far fe x=some k->Rch es f k x
 bound:∀x k,far fe x=some k->k+1<=fe.length
 nodup:(fe.map ks).Nodup
 keys:∀k∈fe.map ks,k∈f::es.map ks
theorem Far.len {es fe:List (V × V)}{f:List Nat}(h:Far es f fe):fe.length<=es.length+1:=by
 have:=nodup_len h.nodup h.keys
 simpa using this
theorem Far.lt {es fe:List (V × V)}{f:List Nat}(h:Far es f fe) {x:List Nat}{k:Nat}(hx:far fe x=some k):k<=es.length:=by
 have:=h.bound x k hx
 have:=h.len
 omega
def pot (es:List (V × V)) (f:List Nat) (fe:List (V × V)):Nat:=((f::es.map ks).map λx=>(far fe x).getD (es.length+2)).sum
theorem sum_lt {g h:List Nat->Nat}:∀{l:List (List Nat)},(∀x,g x<=h x)->(∃x∈l,g x<h x)->(l.map g).sum<(l.map h).sum
 | [],_,⟨_,hx,_⟩=>by cases hx
 |a::l,hle,⟨x,hx,hlt⟩=>by
  have rest:∀l:List (List Nat),(l.map g).sum<=(l.map h).sum:=by
   intro l
   induction l with
   |nil=>simp
   |cons b l ih=>have:=hle b;simp only[List.map_cons,List.sum_cons];omega
  simp only[List.map_cons,List.sum_cons]
  rcases List.mem_cons.1 hx with rfl | hx
  ·have:=rest l;omega
  ·have:=sum_lt hle ⟨x,hx,hlt⟩
   have:=hle a
   omega
theorem Far.relax {es fe:List (V × V)}{f name nx:List Nat}(h:Far es f fe)(hn:nx∈nextOf es name)(hk:name∈es.map ks) {d:Nat}(hd:far fe nx=some d)(hw:∀w,far fe name=some w->d+1<w)
  {fe':List (V × V)}(hp:mput strEq (.str name) (.int .i64 ((d+1:Nat):Int)) fe=some fe'):Far es f fe'/\pot es f fe'<pot es f fe:=by
 obtain⟨fe2,h1,h2,h3,h4⟩:=far_put (x:=name) (m:=d+1) h.ok
 rw[hp]at h1
 injection h1 with h1;subst h1
 have hnf:name≠f:=λe=>by
  subst e
  have:=hw 0 h.zero
  omega
 have hb:=h.bound nx d hd
 have hlen:fe'.length=if name∈fe.map ks then fe.length else fe.length+1:=by
  have:=congrArg List.length h4
  rw[List.length_map]at this
  rw[this]
  split <;> simp
 have hle:fe.length<=fe'.length:=by rw[hlen];split <;> omega
 refine⟨⟨h2,by rw[h3,if_neg hnf.symm];exact h.zero,λx k hx=>?_,λx k hx=>?_,?_,?_⟩,?_⟩
 ·rw[h3]at hx
  split at hx
  ·rename_i e
   injection hx with hx;subst hx e
   exact .succ hn (h.rch nx d hd)
  ·exact h.rch x k hx
 ·rw[h3]at hx
  split at hx
  ·rename_i e
   injection hx with hx;subst hx e
   rw[hlen]
   split
   ·rename_i hm
    obtain⟨w,hw'⟩:=Option.isSome_iff_exists.1 ((far_mem h.ok).2 hm)
    have:=hw w hw'
    have:=h.bound _ w hw'
    omega
   ·omega
  ·have:=h.bound x k hx
   omega
 ·rw[h4]
  split
  ·exact h.nodup
  ·rename_i hm
   rw[List.nodup_append]
   refine⟨h.nodup,by simp,λa ha b hb e=>?_⟩
   simp only[List.mem_singleton]at hb
   subst hb e
   exact hm ha
 ·rw[h4]
  split
  ·exact h.keys
  ·intro k hk'
   rcases List.mem_append.1 hk' with hk' | hk'
   ·exact h.keys k hk'
   ·simp only[List.mem_singleton]at hk'
    subst hk'
    exact List.mem_cons_of_mem _ hk
 ·unfold pot
  have hl:=h.len
  refine sum_lt (λx=>?_) ⟨name,List.mem_cons_of_mem _ hk,?_⟩
  ·rw[h3]
   split
   ·rename_i e
    subst e
    simp only[Option.getD_some]
    cases hx:far fe x with
    |none=>simp only[Option.getD_none];omega
    |some w=>have:=hw w hx;simp only[Option.getD_some];omega
   ·exact Nat.le_refl _
  ·rw[h3,if_pos rfl]
   simp only[Option.getD_some]
   cases hx:far fe name with
   |none=>simp only[Option.getD_none];omega
   |some w=>have:=hw w hx;simp only[Option.getD_some];omega
def Closed1 (fe:List (V × V)) (x nx:List Nat):Prop:=∀d,far fe nx=some d->∃w,far fe x=some w/\w<=d+1
theorem Far.dist {es fe:List (V × V)}{f:List Nat}(hb:BackOk es)(hn:(es.map ks).Nodup)(h:Far es f fe)(hc:∀x nx,nx∈nextOf es x->Closed1 fe x nx) (x:List Nat):distF es f x=far fe x:=by
 have reach:∀k x,Rch es f k x->∃w,far fe x=some w/\w<=k:=by
  intro k x hr
  induction hr with
  |zero=>exact⟨0,h.zero,Nat.le_refl _⟩
  |succ g _ ih=>
   obtain⟨w,h1,h2⟩:=ih
   obtain⟨w',h3,h4⟩:=hc _ _ g w h1
   exact⟨w',h3,by omega⟩
 cases hx:far fe x with
 |some w=>
  rw[distF_some hb hn]
  refine⟨h.lt hx,h.rch x w hx,λj hj hr=>?_⟩
  obtain⟨w',h1,h2⟩:=reach j x hr
  rw[hx]at h1
  injection h1 with h1
  omega
 |none=>
  cases hd:distF es f x with
  |none=>rfl
  |some k=>
   obtain⟨_,hr,_⟩:=(distF_some hb hn).1 hd
   obtain⟨w,h1,_⟩:=reach k x hr
   rw[hx]at h1
   cases h1
theorem dist_step {es:List (V × V)}(hb:BackOk es)(hn:(es.map ks).Nodup) {f x:List Nat}{k:Nat}(h:distF es f x=some (k+1)):∃nx∈nextOf es x,distF es f nx=some k:=by
 obtain⟨h1,h2,h3⟩:=(distF_some hb hn).1 h
 cases h2 with | succ g hr=>
 refine⟨_,g,(distF_some hb hn).2 ⟨by omega,hr,λj hj hj'=>?_⟩⟩
 exact h3 (j+1) (by omega) (.succ g hj')
def bestStep (d:List Nat->Option Nat) (acc:Option Nat) (a:List Nat):Option Nat:=
 match d a,acc with
 |none,acc=>acc
 |some k,none=>some k
 |some k,some b=>if k<b then some k else some b
def comb:Option Nat->Option Nat->Option Nat
 |none,e=>e
 |some b,none=>some b
 |some b,some e=>if e<b then some e else some b
theorem best_fold (L:List (List (List Nat))):∀(l:List (List Nat)) (acc:Option Nat),l.foldl (bestStep λx=>distIn x L) acc=comb acc (bestOf L l)
 | [],acc=>by cases acc <;> rfl
 |a::l,acc=>by
  simp only[List.foldl_cons,best_fold L l,bestOf]
  cases hd:distIn a L with
  |none=>simp only[bestStep,hd]
  |some d=>
   cases hb:bestOf L l with
   |none=>
    cases acc with
    |none=>simp[bestStep,hd,comb]
    |some b=>by_cases h:d<b <;> simp[bestStep,hd,comb,h]
   |some e=>
    cases hbl:Nat.blt e d with
    |true=>
     have h2:e<d:=by rw[<- Nat.blt_eq];exact hbl
     cases acc with
     |none=>simp[bestStep,hd,comb,h2,hbl]
     |some b=>by_cases h1:d<b <;> by_cases h3:e<b <;> simp[bestStep,hd,comb,h1,h2,h3,hbl] <;> omega
    |false=>
     have h2:¬ e<d:=λh=>by rw[<- Nat.blt_eq,hbl]at h;cases h
     cases acc with
     |none=>simp[bestStep,hd,comb,h2,hbl]
     |some b=>by_cases h1:d<b <;> by_cases h3:e<b <;> simp[bestStep,hd,comb,h1,h2,h3,hbl] <;> omega
theorem best_mem (L:List (List (List Nat))):∀(l:List (List Nat)) (b:Nat),bestOf L l=some b->∃a∈l,distIn a L=some b
 | [],b,h=>by cases h
 |a::l,b,h=>by
  simp only[bestOf]at h
  cases hd:distIn a L with
  |none=>
   rw[hd]at h
   obtain⟨x,h1,h2⟩:=best_mem L l b h
   exact⟨x,List.mem_cons_of_mem _ h1,h2⟩
  |some d=>
   rw[hd]at h
   cases hb:bestOf L l with
   |none=>rw[hb]at h;injection h with h;subst h;exact⟨a,List.mem_cons_self ..,hd⟩
   |some e=>
    rw[hb]at h
    simp only at h
    split at h
    ·injection h with h;subst h
     obtain⟨x,h1,h2⟩:=best_mem L l e hb
     exact⟨x,List.mem_cons_of_mem _ h1,h2⟩
    ·injection h with h;subst h;exact⟨a,List.mem_cons_self ..,hd⟩
theorem stepOf_find (L:List (List (List Nat))) (b:Nat):∀(l:List (List Nat)),(∃a∈l,distIn a L=some b)->∃(i:Nat) (a:List Nat),l[i]?=some a/\stepOf L b l=some a/\distIn a L=some b/\∀j x,j<i->l[j]?=some x->distIn x L≠some b
 | [],⟨_,h,_⟩=>by cases h
 |a::l,⟨x,hx,hd⟩=>by
  by_cases ha:distIn a L=some b
  ·exact⟨0,a,rfl,by simp only[stepOf,ha,Nat.beq_refl],ha,λj x hj=>by omega⟩
  ·have hx':x∈l:=by
    rcases List.mem_cons.1 hx with rfl | hx
    ·exact absurd hd ha
    ·exact hx
   obtain⟨i,y,h1,h2,h3,h4⟩:=stepOf_find L b l ⟨x,hx',hd⟩
   refine⟨i+1,y,by simpa using h1,?_,h3,λj z hj hz=>?_⟩
   ·simp only[stepOf]
    cases hda:distIn a L with
    |none=>exact h2
    |some d=>
     have hne:d≠b:=λe=>ha (by rw[hda,e])
     cases hbq:Nat.beq d b with
     |true=>exact absurd (Nat.eq_of_beq_eq_true hbq) hne
     |false=>simp only[hbq];exact h2
   ·cases j with
    |zero=>simp at hz;subst hz;exact ha
    |succ j=>exact h4 j z (by omega) (by simpa using hz)
end Go.Ax
end
