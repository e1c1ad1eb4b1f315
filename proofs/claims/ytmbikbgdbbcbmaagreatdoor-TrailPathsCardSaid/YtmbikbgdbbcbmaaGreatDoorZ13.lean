/- Part 13 of the proof. -/
import Derived.Test.YtmbikbgdbbcbmaaGreatDoorY
import Derived.Shelf.Strings.Builder1
import Derived.Shelf.Small.Bits
import Derived.Shelf.Small.Strs
import Derived.Shelf.Utf8.RuneCount
import Derived.Shelf.Strconv.Itoa0
import Derived.Shelf.Strconv.Itoa1
import Derived.Shelf.LaysM
import Derived.Shelf.Strconv.Itoa2
import Derived.Shelf.Strconv.Itoa3
import Derived.Shelf.Strings.Search1
import Derived.Shelf.Strings.Search2
import Derived.Shelf.Strings.Search3
import Derived.Shelf.Strings.Cut
import Derived.Shelf.Strings.Count
import Derived.Shelf.Strings.Shaped
import Derived.Shelf.Strings.Split
import Derived.Shelf.Unicode.DecodeSlow
import Derived.Shelf.Unicode.DecodeAny
import Derived.Ground.Names2Prog
import Derived.Shelf.Slices.Clone
import Derived.Shelf.Slices.CompactS
import Derived.Shelf.Slices.Cells
import Derived.Ground.SlgnProg
import Derived.Shelf.SlicesE.Clone
import Derived.Ground.SlgmProg
import Derived.Shelf.SortM.Plain
import Derived.Shelf.SortM.SortNone
import Derived.Test.YtmbikbgdbbcbmaaGreatDoorProg
import Derived.Test.YtmbikbgdbbcbmaaGreatDoorZ2
import Derived.Test.YtmbikbgdbbcbmaaGreatDoorZ3
import Derived.Lib.Bytealg
import Derived.Lib.Split
import Derived.Lib.SplitLaws
import Derived.Lib.IndexBytes
import Derived.Lib.MakeNoZero
import Derived.KernelRfl
set_option maxHeartbeats 8000000
set_option linter.unusedVariables false
open Nat (reduceEqDiff reduceLT)
section
namespace Go.Proofs
open Go.Shelf
section
def Tryz.lays137_ren:Go.Shelf.Ren:=⟨fun | 137=>267 | 217=>301 | 266=>322 | n=>n,fun | 9=>9 | 5=>5 | 3=>3 | n=>n,fun | n=>n⟩
theorem Tryz.lays137:Go.Proofs.Lays.n137 Tryz.prog Tryz.lays137_ren:={
 mixed:=by kernel_rfl
 f137:=Tryz.func267.trans (au some (by kernel_rfl))
 f217:=Tryz.func301.trans (au some (by kernel_rfl))
 f266:=Tryz.func322.trans (au some (by kernel_rfl))
 t3:=Tryz.underlying3
 a3:=Tryz.isAgg3
 z3:=Tryz.sizeOf3
 v3:=Tryz.zeroValue3
 t5:=Tryz.underlying5
 a5:=Tryz.isAgg5
 z5:=Tryz.sizeOf5
 v5:=Tryz.zeroValue5
 t9:=Tryz.underlying9
 a9:=Tryz.isAgg9
 z9:=Tryz.sizeOf9
 v9:=Tryz.zeroValue9 }
open Go.RowKit in
theorem Tryz.strings_IndexByte (s:ByteArray) (c:Int) (w:World) :
  Calls Tryz.prog 267 #[.string s,.int .u8 c] w λe w'=>e=.returned (.int .i64 (Lib.indexByte s.data.toList c.toNat.toUInt8))/\w'=w:=Any.strings_IndexByte Tryz.lays137 s c w
def Tryz.lays145_ren:Go.Shelf.Ren:=⟨fun | 145=>308 | 220=>324 | 219=>295 | 217=>301 | 225=>315 | 224=>316 | 267=>317 | 266=>322 | 314=>329 | n=>n,fun | 9=>9 | 4=>4 | 59=>300 | 3=>3 | 5=>5 | 46=>151 | 146=>316 | 51=>186 | n=>n,fun | 1=>0 | n=>n⟩
theorem Tryz.lays145:Go.Proofs.Lays.n145 Tryz.prog Tryz.lays145_ren:={
 mixed:=by kernel_rfl
 f145:=Tryz.func308.trans (au some (by kernel_rfl))
 f217:=Tryz.func301.trans (au some (by kernel_rfl))
 f219:=Tryz.func295.trans (au some (by kernel_rfl))
 f220:=Tryz.func324.trans (au some (by kernel_rfl))
 f224:=Tryz.func316.trans (au some (by kernel_rfl))
 f225:=Tryz.func315.trans (au some (by kernel_rfl))
 f266:=Tryz.func322.trans (au some (by kernel_rfl))
 f267:=Tryz.func317.trans (au some (by kernel_rfl))
 f314:=Tryz.func329.trans (au some (by kernel_rfl))
 t3:=Tryz.underlying3
 a3:=Tryz.isAgg3
 z3:=Tryz.sizeOf3
 v3:=Tryz.zeroValue3
 t4:=Tryz.underlying4
 a4:=Tryz.isAgg4
 z4:=Tryz.sizeOf4
 v4:=Tryz.zeroValue4
 t5:=Tryz.underlying5
 a5:=Tryz.isAgg5
 z5:=Tryz.sizeOf5
 v5:=Tryz.zeroValue5
 t9:=Tryz.underlying9
 a9:=Tryz.isAgg9
 z9:=Tryz.sizeOf9
 v9:=Tryz.zeroValue9
 t46:=Tryz.underlying151
 a46:=Tryz.isAgg151
 z46:=Tryz.sizeOf151
 v46:=Tryz.zeroValue151
 t51:=Tryz.underlying186
 a51:=Tryz.isAgg186
 z51:=Tryz.sizeOf186
 v51:=Tryz.zeroValue186
 t59:=Tryz.underlying300
 a59:=Tryz.isAgg300
 z59:=Tryz.sizeOf300
 v59:=Tryz.zeroValue300
 t146:=Tryz.underlying316
 a146:=Tryz.isAgg316
 z146:=Tryz.sizeOf316
 v146:=Tryz.zeroValue316
 g1:=by kernel_rfl }
open Go.RowKit Go.Lib in
theorem Tryz.strings_Cut (s sep:ByteArray) (m:Int) (w:World)(hs:s.size<4294967281)(hm:w.cell? ⟨0,0,none⟩=some (.int .i64 m)) :
  Calls Tryz.prog 308 #[.string s,.string sep] w λe w'=>e=.returned (.tuple #[.string ⟨(Lib.cut s.data.toList sep.data.toList).1.toArray⟩,.string ⟨(Lib.cut s.data.toList sep.data.toList).2.1.toArray⟩,.bool (Lib.cut s.data.toList sep.data.toList).2.2])/\∃n,w'=w.drewN n:=Any.strings_Cut Tryz.lays145 s sep m w hs hm
def Tryz.lays146_ren:Go.Shelf.Ren:=⟨fun | 146=>185 | 221=>218 | 268=>251 | 138=>252 | 143=>253 | 195=>292 | 197=>293 | 218=>294 | 219=>295 | 260=>314 | 217=>301 | 225=>315 | 224=>316 | 267=>317 | 266=>322 | 314=>329 | n=>n,fun | 9=>9 | 31=>24 | 3=>3 | 4=>4 | 0=>0 | 105=>292 | 21=>21 | 5=>5 | 46=>151 | 119=>312 | 139=>315 | 138=>314 | 146=>316 | 51=>186 | n=>n,fun | 1=>0 | 3=>1 | 4=>2 | n=>n⟩
theorem Tryz.lays146:Go.Proofs.Lays.n146 Tryz.prog Tryz.lays146_ren:={
 mixed:=by kernel_rfl
 f138:=Tryz.func252.trans (au some (by kernel_rfl))
 f143:=Tryz.func253.trans (au some (by kernel_rfl))
 f146:=Tryz.func185.trans (au some (by kernel_rfl))
 f195:=Tryz.func292.trans (au some (by kernel_rfl))
 f197:=Tryz.func293.trans (au some (by kernel_rfl))
 f217:=Tryz.func301.trans (au some (by kernel_rfl))
 f218:=Tryz.func294.trans (au some (by kernel_rfl))
 f219:=Tryz.func295.trans (au some (by kernel_rfl))
 f221:=Tryz.func218.trans (au some (by kernel_rfl))
 f224:=Tryz.func316.trans (au some (by kernel_rfl))
 f225:=Tryz.func315.trans (au some (by kernel_rfl))
 f260:=Tryz.func314.trans (au some (by kernel_rfl))
 f266:=Tryz.func322.trans (au some (by kernel_rfl))
 f267:=Tryz.func317.trans (au some (by kernel_rfl))
 f268:=Tryz.func251.trans (au some (by kernel_rfl))
 f314:=Tryz.func329.trans (au some (by kernel_rfl))
 t0:=Tryz.underlying0
 a0:=Tryz.isAgg0
 z0:=Tryz.sizeOf0
 v0:=Tryz.zeroValue0
 t3:=Tryz.underlying3
 a3:=Tryz.isAgg3
 z3:=Tryz.sizeOf3
 v3:=Tryz.zeroValue3
 t4:=Tryz.underlying4
 a4:=Tryz.isAgg4
 z4:=Tryz.sizeOf4
 v4:=Tryz.zeroValue4
 t5:=Tryz.underlying5
 a5:=Tryz.isAgg5
 z5:=Tryz.sizeOf5
 v5:=Tryz.zeroValue5
 t9:=Tryz.underlying9
 a9:=Tryz.isAgg9
 z9:=Tryz.sizeOf9
 v9:=Tryz.zeroValue9
 t21:=Tryz.underlying21
 a21:=Tryz.isAgg21
 z21:=Tryz.sizeOf21
 v21:=Tryz.zeroValue21
 t31:=Tryz.underlying24
 a31:=Tryz.isAgg24
 z31:=Tryz.sizeOf24
 v31:=Tryz.zeroValue24
 t46:=Tryz.underlying151
 a46:=Tryz.isAgg151
 z46:=Tryz.sizeOf151
 v46:=Tryz.zeroValue151
 t51:=Tryz.underlying186
 a51:=Tryz.isAgg186
 z51:=Tryz.sizeOf186
 v51:=Tryz.zeroValue186
 t105:=Tryz.underlying292
 a105:=Tryz.isAgg292
 z105:=Tryz.sizeOf292
 v105:=Tryz.zeroValue292
 t119:=Tryz.underlying312
 a119:=Tryz.isAgg312
 z119:=Tryz.sizeOf312
 t138:=Tryz.underlying314
 a138:=Tryz.isAgg314
 z138:=Tryz.sizeOf314
 v138:=Tryz.zeroValue314
 t139:=Tryz.underlying315
 a139:=Tryz.isAgg315
 z139:=Tryz.sizeOf315
 v139:=Tryz.zeroValue315
 t146:=Tryz.underlying316
 a146:=Tryz.isAgg316
 z146:=Tryz.sizeOf316
 v146:=Tryz.zeroValue316
 g1:=by kernel_rfl
 g3:=by kernel_rfl
 g4:=by kernel_rfl }
open Go.RowKit Go.Lib in
theorem Tryz.strings_Split (s sep:ByteArray) (m:Int) (w:World)(hs:s.size<4294967281)(hm:w.cell? ⟨0,0,none⟩=some (.int .i64 m))(h1:1<=sep.size) :
  Calls Tryz.prog 185 #[.string s,.string sep] w λe w'=>
   e=.returned (.slice (some ⟨w.heap.size,0,none⟩) (Lib.countB s sep+1) (Lib.countB s sep+1))/\w'=w.alloc (.cells ((Lib.splitB sep 0 (Lib.countB s sep) s).map Value.string).toArray 9):=Any.strings_Split Tryz.lays146 (by kernel_rfl) s sep m w hs hm h1
end
end Go.Proofs
end
section
namespace Go.Ax
open Go
theorem tG (c:Nat)(hc:c<256):∀l:List UInt8,Lib.indexByte l c.toUInt8=match jR c (l.map UInt8.toNat) with | some i=>(i:Int) | none=>-1
 | []=>rfl
 |b::l=>by
  have ih:=tG c hc l
  have e:(b==c.toUInt8)=decide (b.toNat=c):=by
   have:c.toUInt8.toNat=c:=by simp[Nat.toUInt8];omega
   rw[e8];simp only[gr,aa];constructor
   ·intro h;rw[h];exact this
   ·intro h;exact UInt8.toNat_inj.1 (by rw[h];exact this.symm)
  simp only[Lib.indexByte,bh,jR,e,aa];by_cases h:b.toNat=c
  ·simp[h]
  ·simp only[h,ay];rw[ih];cases jR c (l.map UInt8.toNat) with
   |none=>rfl
   |some i=>
    dsimp only;rw[an (by simp)];simp
end Go.Ax
namespace Go.Ax
open Go Go.Proofs
theorem Ar (E:Env):fF Tryz.prog E 267 jJ:=by
 intro d vs xs v hσ hs hv h;unfold jJ at h;split at h
 case h_2=>cases h
 rename_i s c;split at h
 case isFalse=>cases h
 rename_i hc;injection h with h;subst h;cases hv with | cons _ x _ xs hx hr=>
 cases hr with | cons _ y _ ys hy hr=>
 cases hr;obtain⟨b,rfl,hb⟩:=hx.eU;have:=hy.eD;subst this;refine .inl ⟨Tryz.call267 _ _,(Tryz.strings_IndexByte b c d.w).mono ?_⟩;rintro e w' ⟨rfl,rfl⟩;refine⟨_,rfl,d,rfl,hσ,Ext.refl d,hs,?_⟩;rw[tG c.toNat (by omega),show b.data.toList.map UInt8.toNat=s from hb];exact .inl (.int _ _)
end Go.Ax
namespace Go.Ax
open Go
theorem Bg (c:Nat):∀l:List Nat,jR c l=none->cP c l=[l]
 | [],_=>rfl
 |a::r,h=>by
  simp only[jR]at h;split at h
  ·cases h
  rename_i hne;split at h
  ·cases h
  rename_i hr;simp[cP,hne,Bg c r hr]
theorem CD (c:Nat):∀(l:List Nat) (i:Nat),jR c l=some i->cP c l=l.take i::cP c (l.drop (i+1))
 | [],i,h=>by cases h
 |a::r,i,h=>by
  simp only[jR]at h;split at h
  ·rename_i he;injection h with h;subst h;simp[cP,he]
  rename_i hne;split at h
  ·rename_i j hj;injection h with h;subst h;simp[cP,hne,CD c r j hj]
  ·cases h
end Go.Ax
namespace Go.Ax
open Go
theorem xX (s sep:ByteArray) (c:Nat)(hb:bytes sep=[c]):Lib.indexB s sep=match jR c (bytes s) with | some i=>(i:Int) | none=>-1:=by
 have hsz:sep.data.toList.map UInt8.toNat=[c]:=hb
 obtain⟨u,hu⟩:∃u,sep.data.toList=[u]:=by
  cases hl:sep.data.toList with
  |nil=>rw[hl]at hsz;cases hsz
  |cons u r=>
   cases r with
   |nil=>exact⟨u,rfl⟩
   |cons _ _=>rw[hl]at hsz;simp at hsz
 have hc:u.toNat=c:=by rw[hu]at hsz;simpa using hsz
 have e:Lib.indexB s sep=Lib.index s.data.toList sep.data.toList:=rfl;have hcc:c.toUInt8=u:=by rw[<- hc];simp
 rw[e,hu,Lib.index_one,<- hcc,tG c (by rw[<- hc];exact u.toNat_lt)];rfl
end Go.Ax
namespace Go.Ax
open Go
theorem Fk (c:Nat):∀(l:List Nat) (i:Nat),jR c l=some i->i<l.length
 | [],i,h=>by cases h
 |a::r,i,h=>by
  simp only[jR]at h;split at h
  ·injection h with h;subst h;simp
  split at h
  ·rename_i j hj;injection h with h;subst h;have:=Fk c r j hj;simp;omega
  ·cases h
theorem OH (sep:ByteArray) (c:Nat)(hb:bytes sep=[c]):∀(n:Nat) (s:ByteArray),s.size<=n->(Lib.splitB sep 0 (Lib.countB s sep) s).map bytes=cP c (bytes s)/\(cP c (bytes s)).length=Lib.countB s sep+1:=by
 have h1:1<=sep.size:=by
  have:=au List.length hb;simp[bytes]at this;omega
 have hsep:sep.size=1:=by
  have:=au List.length hb;simpa [bytes]using this
 intro n
 induction n with
 |zero=>
  intro s hs
  have h0:bytes s=[]:=by
   have:(bytes s).length=0:=by
    have:(bytes s).length=s.size:=by simp[bytes]
    omega
   exact ik.1 this
  have hi:=xX s sep c hb;rw[h0]at hi;have hi':Lib.indexB s sep = -1:=hi;rw[Lib.countB_miss s sep hi',Lib.splitB_zero];simp[h0,cP]
 |succ n ih=>
  intro s hs;have hi:=xX s sep c hb;cases hx:jR c (bytes s) with
  |none=>
   rw[hx]at hi;have hi':Lib.indexB s sep = -1:=hi;rw[Lib.countB_miss s sep hi',Lib.splitB_zero,Bg c _ hx];simp
  |some i=>
   rw[hx]at hi;have hi':Lib.indexB s sep=(i:Nat):=hi;have hlt:=Fk c _ _ hx;have hlen:(bytes s).length=s.size:=by simp[bytes]
   have hrec:=ih (s.extract (i+sep.size) s.size) (by rw[ByteArray.size_extract];omega);rw[Lib.countB_hit s sep i h1 hi',mg 1,Lib.splitB_hit _ _ _ _ i hi',CD c _ i hx]
   have hd:bytes (s.extract (i+sep.size) s.size)=(bytes s).drop (i+1):=by
    rw[rF,hsep,ak (by rw[qi];omega)]
   rw[hd]at hrec;constructor
   ·rw[bh,hrec.1,rF];simp
   ·simp[hrec.2]
end Go.Ax
namespace Go.Ax
open Go Go.Proofs
theorem L_ {E:Env}(hE:E.gl=Fo) {d:Cx}(hs:SR E d):∃m,d.w.cell? ⟨0,0,none⟩=some (.int .i64 m):=by
 obtain⟨o,h1,⟨m,t,fr,rfl⟩,_⟩:=hs.gl 0 (λo=>∃m t fr,o=.cells #[.int .i64 m] t fr) (by rw[hE];rfl);exact⟨m,by rw[nR h1];rfl⟩
theorem EF {w:World}{I:Bool->Nat->Prop}{blk:Nat}:∀(l:List ByteArray) (off:Nat),(∀(j:Nat) b,l[j]?=some b->w.cell? ⟨blk,off+j,none⟩=some (.string b)) ->
  eI w I 1 ((l.map bytes).map λp=>[V.str p]) blk off
 | [],_,_=>.nil
 |a::l,off,h=>by
  refine .cons _ _ rfl (.cons _ _ _ (by simpa using h 0 a rfl) (.str _) .nil) (EF l (off+1) λj b hj=>?_);have:=h (j+1) b (by simpa using hj)
  rwa [show off+(j+1)=off+1+j by omega]at this
theorem F_ (E:Env)(hE:E.gl=Fo):fF Tryz.prog E 185 kJ:=by
 intro d vs xs v hσ hs hv h;unfold kJ at h;split at h
 case h_2=>cases h
 rename_i s c;split at h
 case isFalse=>cases h
 rename_i hc;injection h with h;subst h;cases hv with | cons _ x _ xs hx hr=>
 cases hr with | cons _ y _ ys hy hr=>
 cases hr;obtain⟨b,rfl,hb⟩:=hx.eU;obtain⟨sp,rfl,hsp⟩:=hy.eU;obtain⟨m,hm⟩:=L_ hE hs;have hbs:b.size=s.length:=by rw[<- hb];simp[bytes]
 have hss:sp.size=1:=by
  have:=au List.length hsp;simpa [bytes]using this
 obtain⟨e1,e2⟩:=OH sp c hsp b.size b (OF _);refine .inl ⟨Tryz.call185 _ _,(Tryz.strings_Split b sp m d.w (by omega) hm (by omega)).mono ?_⟩;rintro e w' ⟨rfl,rfl⟩;obtain⟨k1,k2⟩:=wI hs (w:=d.w.alloc (.cells ((Lib.splitB sp 0 (Lib.countB b sp) b).map Value.string).toArray 9)) (by simp) (λk hk=>Go.RowKit.Below.heap_alloc _ _ _ hk) rfl rfl rfl;refine⟨_,rfl,d.outer _,rfl,hσ,k1,k2,.inl (.bS false _ true d.w.heap.size 0 _ _ 1 ⟨by simp[Cx.outer],λho=>?_,λ_ ha=>?_⟩ ?_ (OF _) (λ_=>rfl) ?_)⟩
 ·have:=hs.uX (k:=d.w.heap.size) ho;omega
 ·have:=hs.iX _ ha;omega
 ·rw[bj,<- hb,e2]
 ·rw[<- hb,<- e1];refine EF _ 0 λj q hj=>?_
  rw[nR (arr:=((Lib.splitB sp 0 (Lib.countB b sp) b).map Value.string).toArray) (t:=9) (fr:=(0,0)) (by
   show (d.w.heap.push _)[d.w.heap.size]?=_;simp)]
  simp[hj]
end Go.Ax
namespace Go.Ax
open Go Go.Proofs
theorem Mn (c:Nat):∀l:List Nat,TQ c l=match jR c l with | some i=>(l.take i,l.drop (i+1),true) | none=>(l,[],false)
 | []=>rfl
 |a::r=>by
  simp only[TQ,jR];by_cases h:a=c
  ·simp[h]
  ·simp only[h,ay,Mn c r];cases jR c r <;> simp
end Go.Ax
namespace Go.Ax
open Go Go.Proofs
theorem JG (E:Env)(hE:E.gl=Fo):fF Tryz.prog E 308 vZ:=by
 intro d vs xs v hσ hs hv h;unfold vZ at h;split at h
 case h_2=>cases h
 rename_i s c;split at h
 case isFalse=>cases h
 rename_i hc;dsimp only at h;injection h with h;subst h;cases hv with | cons _ x _ xs hx hr=>
 cases hr with | cons _ y _ ys hy hr=>
 cases hr;obtain⟨b,rfl,hb⟩:=hx.eU;obtain⟨sp,rfl,hsp⟩:=hy.eU;obtain⟨m,hm⟩:=L_ hE hs;have hbs:b.size=s.length:=by rw[<- hb];simp[bytes]
 refine .inl ⟨Tryz.call308 _ _,(Tryz.strings_Cut b sp m d.w (by omega) hm).mono ?_⟩;rintro e w' ⟨rfl,n,rfl⟩;obtain⟨k1,k2⟩:=wI hs (w:=d.w.drewN n) (by simp) (λk hk=>by simp) rfl rfl rfl
 have hidx:Lib.index b.data.toList sp.data.toList=match jR c s with | some i=>(i:Int) | none=>-1:=by
  rw[<- hb];exact xX b sp c hsp
 have hlen:sp.data.toList.length=1:=by
  have:=au List.length hsp;simpa [bytes]using this
 have hl:b.data.toList.map UInt8.toNat=s:=hb
 have str:∀(l:List UInt8),VR (d.outer (d.w.drewN n)) (.str (l.map UInt8.toNat)) (.string ⟨l.toArray⟩):=λl=>by
  have:bytes ⟨l.toArray⟩=l.map UInt8.toNat:=by simp[bytes]
  rw[<- this];exact .inl (.str _)
 refine⟨_,rfl,d.outer (d.w.drewN n),rfl,hσ,k1,k2,?_⟩;rw[Mn];unfold Lib.cut;cases hx:jR c s with
 |none=>
  rw[hx]at hidx;have h0:¬ (0<=Lib.index b.data.toList sp.data.toList):=by rw[hidx];decide
  simp only[an h0];refine .fM _ [_,_,_] (.cons _ _ _ _ ?_ (.cons _ _ _ _ ?_ (.cons _ _ _ _ (.inl (.bool _)) .nil)))
  ·have:=str b.data.toList
   rwa [hl]at this
  ·exact str []
 |some i=>
  rw[hx]at hidx;have h0:0<=Lib.index b.data.toList sp.data.toList:=by rw[hidx];exact Int.natCast_nonneg _
  have h1:(Lib.index b.data.toList sp.data.toList).toNat=i:=by rw[hidx];rfl
  simp only[az h0,h1,hlen];refine .fM _ [_,_,_] (.cons _ _ _ _ ?_ (.cons _ _ _ _ ?_ (.cons _ _ _ _ (.inl (.bool _)) .nil)))
  ·have:=str (b.data.toList.take i)
   rwa [List.map_take,hl]at this
  ·have:=str (b.data.toList.drop (i+1))
   rwa [List.map_drop,hl]at this
end Go.Ax
namespace Go.Ax
open Go Go.Proofs
theorem NQ (n:Nat) (w:World):(callFunc 320 #[.int .i64 n]).run Tryz.prog w=((Extern.BytealgMakeNoZero.makeNoZero Tryz.f320.params Tryz.f320.resultTypes #[.int .i64 n]).run Tryz.prog w).andThen λv w'=>.ok (.value v) w':=by
 have h1:Tryz.prog.funcs[320]?=some Tryz.f320:=Tryz.func320;have h2:(Tryz.f320.name == "runtime.NumGoroutine")=false:=by kernel_rfl
 have h3:Tryz.f320.body.isNone=true:=by kernel_rfl
 have h4:Extern.findNext Tryz.f320=none:=by kernel_rfl
 have h5:Extern.find Tryz.f320=some (Extern.BytealgMakeNoZero.makeNoZero Tryz.f320.params Tryz.f320.resultTypes):=by kernel_rfl
 simp only[callFunc,Sem.run_bind,run_program,Result.andThen_ok,h1,h2,h3,h4,h5,ah,ay,bf,run_mark,Sem.run_pure]
end Go.Ax
namespace Go.Ax
open Go Go.Proofs
theorem Qm (E:Env) {i:Ty}(hi:E.ty 5=some i)(hsz:i.size=1)(hP:Tryz.prog.underlying 5=some (.int .u8)):h_ Tryz.prog E 320 (L8 5):=by
 intro c vs xs v σ' hs hv h;unfold L8 at h;split at h
 case h_2=>cases h
 rename_i n;split at h
 case isFalse=>cases h
 rename_i hn;injection h with h;injection h with h1 h2;subst h1 h2;cases hv with | cons _ x _ xs hx hr=>
 cases hr;have:=hx.eD;subst this;obtain⟨k,rfl⟩:∃k:Nat,n=k:=⟨n.toNat,by omega⟩;obtain⟨cs,r1,r2,_⟩:=Lib.run_makeNoZero (P:=Tryz.prog) c.w Tryz.f320.params _ 5 (show Tryz.prog.underlying (Tryz.f320.resultTypes[0]!)=some (.slice 5) by kernel_rfl) k (by omega);have hrt:Tryz.f320.resultTypes = #[Tryz.f320.resultTypes[0]!]:=by kernel_rfl
 have hrun:(callFunc 320 [Value.int .i64 (k:Int)].toArray).run Tryz.prog c.w=.ok (.value (.slice (some ⟨c.w.heap.size,0,none⟩) k cs.size)) (c.w.drew.drew.alloc (.cells cs 5)):=by
  show (callFunc 320 #[.int .i64 (k:Int)]).run Tryz.prog c.w=_;rw[NQ,hrt,r1];rfl
 obtain⟨c',q1,q2,q3,q4,q5,q6,q7⟩:=LI (c:=c.drew.drew) (Cx.wM (Cx.wM hs)) hi (cs:=[]) (xs:=[]) (ys:=cs.toList) .nil rfl;refine .inr ⟨_,_,hrun,c',?_,q2,(c.kG.trans c.drew.kG).trans q3,q4,?_⟩
 ·rw[q1];rfl
 ·have q5':c'.blk c.Z.length=c.w.heap.size:=q5;rw[<- q5'];refine .sl _ _ _ _ _ (by rw[q2];simp[Cx.drew]) (by simpa using r2) (λk hk=>by cases hk) (λ_=>?_);have q6':c'.tot c.Z.length=0+cs.toList.length:=q6;have q7':c'.yD c.Z.length=i.size:=q7;rw[q6',q7',hsz];simp
end Go.Ax
namespace Go.Ax
open Go Go.Proofs
theorem IW (x:Value) (w:World):(callFunc 318 #[x]).run Tryz.prog w=.ok (.value x) w:=by
 have h1:Tryz.prog.funcs[318]?=some Tryz.f318:=Tryz.func318;have h2:(Tryz.f318.name == "runtime.NumGoroutine")=false:=by kernel_rfl
 have h3:Tryz.f318.body.isNone=true:=by kernel_rfl
 have h4:Extern.findNext Tryz.f318=none:=by kernel_rfl
 have h5:Extern.find Tryz.f318=some Extern.AbiNoEscape.same:=by kernel_rfl
 have h6:(Extern.AbiNoEscape.same #[x]).run Tryz.prog w=.ok x w:=rfl;simp only[callFunc,Sem.run_bind,run_program,Result.andThen_ok,h1,h2,h3,h4,h5,ah,ay,bf,run_mark,Sem.run_pure,h6]
theorem Kl (E:Env):h_ Tryz.prog E 318 Cb:=by
 intro c vs xs v σ' hs hv h;unfold Cb at h;split at h
 case h_2=>cases h
 injection h with h;injection h with h1 h2;subst h1 h2;cases hv with | cons _ x _ xs hx hr=>
 cases hr;exact .inr ⟨_,_,IW x c.w,c,rfl,rfl,Ext.refl c,hs,hx⟩
end Go.Ax
end
section
namespace Go.Ax
open Go
section
def E2 (fr:Fr) (Z:Sg) (x:Operand) (K:V->Sg->Prop):Prop:=
 match aR fr x with
 |some (.ref b 0)=>match Z[b]? with
  |some (.s_ left _)=>(left=[]->K (.fM [.bool false]) Z)/\∀a e z,left=a++e::z->K (.fM [.bool true,e.1,e.2]) (Z.set b (.s_ (a++z) (some e)))
  |_=>False
 |_=>False
def dU:Op->Option Operand
 | .next x false=>some x
 |_=>none
def cR (E:Env) (ev:yE) (ops:Array Oper):List Oper->Fr->Sg->(Fr->Sg->Prop)->Prop
 | [],fr,Z,K=>K fr Z
 |o::rest,fr,Z,K=>match dU o.op with
  |some x=>cA ops o fr=true/\E2 fr Z x λv σ'=>cR E ev ops rest (cT fr o.dst v) σ' K
  |none=>match bL E ev .no ops o fr Z with
   |some (fr',σ')=>cR E ev ops rest fr' σ' K
   |none=>False
def eR (E:Env):Nat->Code->Fr->Sg->(X->Fr->Sg->Prop)->Prop
 |0,_,_,_,_=>False
 |n+1,c,fr,Z,Q=>match c with
  | .skip=>Q .normal fr Z
  | .seq a b=>eR E n a fr Z λx fr Z=>match x with
   | .normal=>eR E n b fr Z Q
   |x=>Q x fr Z
  | .cond c t e=>match aR fr c with
   |some (.bool true)=>eR E n t fr Z Q
   |some (.bool false)=>eR E n e fr Z Q
   |_=>False
  | .block id c=>eR E n c fr Z λx fr Z=>match x with
   | .exit id'=>if id'=id then Q .normal fr Z else Q (.exit id') fr Z
   |x=>Q x fr Z
  | .loop c=>eR E n c fr Z λx fr Z=>match x with
   | .normal=>eR E n (.loop c) fr Z Q
   |x=>Q x fr Z
  | .exit id=>Q (.exit id) fr Z
  | .ret=>Q .ret fr Z
  | .region _ ops draw=>match draw with
   |true=>match cO E (ev E n) ops fr Z with
    |some (fr,Z)=>Q .normal fr Z
    |none=>False
   |false=>cR E (ev E n) ops ops.toList fr Z (Q .normal)
  |_=>False
section
variable {E:Env}{n:Nat}{fr:Fr}{Z:Sg}{Q:X->Fr->Sg->Prop}
theorem e_:eR E (n+1) .skip fr Z Q=Q .normal fr Z:=by rw[eR]
theorem fO {id:Nat}:eR E (n+1) (.exit id) fr Z Q=Q (.exit id) fr Z:=by rw[eR]
theorem FY:eR E (n+1) .ret fr Z Q=Q .ret fr Z:=by rw[eR]
theorem cV {a b:Code}:eR E (n+1) (.seq a b) fr Z Q=eR E n a fr Z λx fr Z=>match x with
   | .normal=>eR E n b fr Z Q
   |x=>Q x fr Z:=by rw[eR]
theorem fA {c:Operand}{t e:Code}:eR E (n+1) (.cond c t e) fr Z Q=match aR fr c with
   |some (.bool true)=>eR E n t fr Z Q
   |some (.bool false)=>eR E n e fr Z Q
   |_=>False:=by rw[eR]
theorem c_ {id:Nat}{c:Code}:eR E (n+1) (.block id c) fr Z Q=eR E n c fr Z λx fr Z=>match x with
   | .exit id'=>if id'=id then Q .normal fr Z else Q (.exit id') fr Z
   |x=>Q x fr Z:=by rw[eR]
theorem nW {c:Code}:eR E (n+1) (.loop c) fr Z Q=eR E n c fr Z λx fr Z=>match x with
   | .normal=>eR E n (.loop c) fr Z Q
   |x=>Q x fr Z:=by rw[eR]
theorem dH {id:Nat}{ops:Array Oper}:eR E (n+1) (.region id ops false) fr Z Q=cR E (ev E n) ops ops.toList fr Z (Q .normal):=by rw[eR]
end
section
variable {E:Env}{n:Nat}{fr:Fr}{Z:Sg}
theorem Mi:ev E (n+1) .skip fr Z=some (.normal,fr,Z):=by rw[ev]
theorem Ko:ev E (n+1) .ret fr Z=some (.ret,fr,Z):=by rw[ev]
theorem DG {a b:Code}:ev E (n+1) (.seq a b) fr Z=match ev E n a fr Z with
   |some (.normal,fr,Z)=>ev E n b fr Z
   |r=>r:=by rw[ev];rfl
theorem Mj {c:Operand}{t e:Code}:ev E (n+1) (.cond c t e) fr Z=match aR fr c with
   |some (.bool true)=>ev E n t fr Z
   |some (.bool false)=>ev E n e fr Z
   |_=>no "cond" := by rw[ev];rfl
theorem DI {id:Nat}{c:Code}:ev E (n+1) (.block id c) fr Z=match ev E n c fr Z with
   |some (.exit id',fr,Z)=>if id'=id then some (.normal,fr,Z) else some (.exit id',fr,Z)
   |r=>r:=by rw[ev];rfl
def wP (E:Env) (n:Nat) (c:Code):Option (X × Fr × Sg)->Option (X × Fr × Sg)
 |some (.normal,fr,Z)=>ev E n (.loop c) fr Z
 |r=>r
theorem IM {c:Code}:ev E (n+1) (.loop c) fr Z=wP E n c (ev E n c fr Z):=by rw[ev];rfl
theorem DH {id:Nat}{ops:Array Oper}:ev E (n+1) (.region id ops false) fr Z=match gN E (ev E n) .no ops ops.toList fr Z with
   |some (fr,Z)=>some (.normal,fr,Z)
   |none=>none:=by rw[ev];simp only[ah,ay];rfl
end
section
variable {P:Program}{E:Env}
def vW (E:Env) (c:Cx) (Q:X->Fr->Sg->Prop) (e:Exit) (a:Act) (w:World):Prop:=∃x fr Z,Q x fr Z/\Post E c x fr Z e a w
theorem vW.trans {c c':Cx}{Q:X->Fr->Sg->Prop}{e:Exit}{a:Act}{w:World}(h:Ext c c')(hp:vW E c' Q e a w):vW E c Q e a w:=by
 obtain⟨x,fr,Z,h1,h2⟩:=hp;exact⟨x,fr,Z,h1,h2.trans h⟩
theorem J9 {c:Cx}(hs:SR E c) {fr:Fr}{a:Act}(hf:FR c fr a.tmps) {o:Oper}{x:Operand}(ho:o.op=.next x false) {K:V->Sg->Prop}(h:E2 fr c.Z x K)
  {next:Act->World->Prop}{Q:Exit->Act->World->Prop}(hn:∀v σ' y w',K v σ'->jI E c v σ' y w'->next (a.put o.dst y) w'):o.wp P a c.w next Q:=by
 unfold E2 at h;split at h
 case h_2=>exact h.elim
 rename_i b hx;split at h
 case h_2=>exact h.elim
 rename_i left cur hob;obtain⟨hp,hblt⟩:=(aK hf hx).iK;have hlv:live c.Z b:=⟨_,hob,rfl⟩
 have run:∀(y:Value) (w':World),(Instr.next (.pointer (some ⟨c.blk b,0,none⟩)) false o.type).run P c.w=.ok y w'->next (a.put o.dst y) w'->o.wp P a c.w next Q:=by
  intro y w' hr hk;unfold Oper.wp
  have:(execOp a.eval o).run P c.w=.ok (.value y) w':=by
   unfold execOp;rw[ho];simp only[hp];simp only[Sem.run_bind,hr,Result.andThen_ok,Sem.run_pure]
  rw[this];exact hk
 rcases hs.obj b _ hob with⟨h1,h0,h2⟩ | ⟨g,m,en,cl,seen,l,k1,k2,k3,k4,k5,k6,k7⟩
 ·refine run (.tuple #[.bool false]) c.w ?_ (hn _ _ _ _ (h.1 h1) ⟨c,rfl,rfl,Ext.refl c,hs,.fM _ [_] (.cons _ _ _ _ (.inl (.bool _)) .nil)⟩);simp only[Instr.next,getObj,Sem.run_bind,Sem.run,h2,Result.andThen];rfl
 ·have hl:∀q,q∈(leftOf en seen).toList ↔ q∈l:=λq=>by rw[k5.mem_iff];simp[leftOf]
  rcases run_next_at (P:=P) c.w o.type (c.blk b) m cl cl seen en cl k1 k3 k4.st.1 (OF _) with⟨r1,r2⟩ | ⟨q,r1,w1,r2,r3⟩
  ·have:l=[]:=by
    cases l with
    |nil=>rfl
    |cons q l=>
     have:=(hl q).2 (IN ..);rw[Array.eq_empty_of_size_eq_zero r1]at this;simp at this
   subst this;have hleft:left=[]:=by cases k6;rfl
   exact run _ _ r2 (hn _ _ _ _ (h.1 hleft) ⟨c,rfl,rfl,Ext.refl c,hs,.fM _ [_] (.cons _ _ _ _ (.inl (.bool _)) .nil)⟩)
  ·have hq:=(hl q).1 r1
   have part:∀{left:List (V × V)}{l:List MapEntry},iW c left l->q∈l->∃a e z la lz,left=a++e::z/\l=la++q::lz/\iW c (a++z) (la++lz)/\sG c.w c.bD e.1 q.key/\VR c e.2 q.val:=by
    intro left l hm
    induction hm with
    |nil=>intro hq;cases hq
    |cons k v es e l hk hv hr ih=>
     intro hq;by_cases hqe:q=e
     ·subst hqe;exact⟨[],(k,v),es,[],l,rfl,rfl,hr,hk,hv⟩
     ·have hq':q∈l:=by
       rcases IT.1 hq with hq | hq
       ·exact absurd hq hqe
       ·exact hq
      obtain⟨a,e',z,la,lz,e1,e2,e3,e4,e5⟩:=ih hq';exact⟨(k,v)::a,e',z,e::la,lz,by rw[e1];rfl,by rw[e2];rfl,.cons _ _ _ _ _ hk hv e3,e4,e5⟩
   obtain⟨pa,pe,pz,la,lz,e1,e2,e3,e4,e5⟩:=part k6 hq
   let c1:Cx:={ c with w:=w1 }
   have hc1:SR E c1/\Ext c c1/\w1.heap=c.w.heap:=by
    rcases r2 with rfl | rfl
    ·exact⟨hs,Ext.refl c,rfl⟩
    ·exact⟨Cx.wM hs,c.kG,rfl⟩
   obtain⟨hs1,hx1,hh1⟩:=hc1;have hlv1:live c1.Z b:=hlv;have hx2:=Cx.mG (c:=c1) hlv1 (.mapIter (some m) cl (seen.push q.born) cl) (.s_ (pa++pz) (some pe));have hx3:=hx1.trans hx2
   have hqen:q∈en.toList:=by
    have:=r1;simp only[leftOf,Array.toList_filter,od]at this;exact this.1
   have hs2:SR E (c1.put b (.mapIter (some m) cl (seen.push q.born) cl) (.s_ (pa++pz) (some pe))):=by
    refine Cx.uT hs1 hlv1 _ _ (.inr ⟨g,m,en,cl,seen.push q.born,la++lz,?_,(hx3.wider g m k2).1,by rw[(hx3.wider g m k2).2];exact k3,k4,?_,e3.mono hx3,?_⟩)
    ·have hlt:=jC k1;show (w1.heap.setIfInBounds (c.blk b) _)[c.blk b]?=_;rw[hh1];simp[hlt]
    ·have hnd:(en.toList.map (·.born)).Nodup:=k4.st.2.1;have hp2:(la++q::lz).Perm (en.toList.filter λe=>!seen.contains e.born):=by rw[<- e2];exact k5
     have hf:(en.toList.filter λe=>!(seen.push q.born).contains e.born)=(en.toList.filter λe=>!seen.contains e.born).filter λe=>!(e.born==q.born):=by
      rw[List.filter_filter];refine List.filter_congr λe _=>?_;simp only[Array.contains_push,Bool.not_or];rw[Bool.and_comm]
     rw[hf];have hp3:=hp2.filter λe:MapEntry=>!(e.born==q.born)
     have hnd2:((la++q::lz).map (·.born)).Nodup:=by
      have:((en.toList.filter λe=>!seen.contains e.born).map (·.born)).Nodup:=hnd.sublist (List.filter_sublist.map _);exact (hp2.map _).nodup_iff.2 this
     have hself:(la++q::lz).filter (λe:MapEntry=>!(e.born==q.born))=la++lz:=by
      rw[gp,bh,k8]at hnd2;obtain⟨n1,n2,n3⟩:=hnd2;rw[dn]at n2;rw[List.filter_append,List.filter_cons];have q0:(!(q.born==q.born))=false:=by simp
      rw[q0,an (by simp)];congr 1
      ·rw[ov];intro e he;have:e.born≠q.born:=λh=>n3 _ (List.mem_map_of_mem he) _ (IN ..) h;simp[this]
      ·rw[ov];intro e he;have:e.born≠q.born:=λh=>n2.1 (by rw[<- h];exact List.mem_map_of_mem he);simp[this]
     rw[hself]at hp3;exact hp3
    ·intro e he;injection he with he;subst he;exact⟨q,hqen,⟨seen,rfl⟩,sG.mono hx3.wider e4,e5.mono hx3⟩
   refine run _ _ r3 (hn _ _ _ _ (h.2 pa pe pz e1) ⟨_,?_,rfl,hx3,hs2,.fM _ [_,_,_] (.cons _ _ _ _ (.inl (.bool _)) (.cons _ _ _ _ ((sG.mono hx3.wider e4).vr) (.cons _ _ _ _ (e5.mono hx3) .nil)))⟩);rfl
theorem oO (he:cB P E)(hfs:fR P E) {ev:yE}(hev:FO P E ev) {ops:Array Oper}{Q:X->Fr->Sg->Prop}:∀(rest:List Oper) (k:Nat),ops.toList.drop k=rest->∀{c:Cx}{fr:Fr}{a:Act},SR E c->FR c fr a.tmps->a.defers=[] ->
  cR E ev ops rest fr c.Z (Q .normal)->∀(c0:Cx),Ext c0 c->wpOps P ops (vW E c0 Q) (List.range' k rest.length) a c.w
 | [],k,_,c,fr,a,hs,hf,hd,h,c0,hx=>⟨.normal,fr,c.Z,h,rfl,hd,c,rfl,rfl,hx,hs,hf⟩
 |o::rest,k,hk,c,fr,a,hs,hf,hd,h,c0,hx=>by
  have ho:ops[k]?=some o:=by
   have:=au (·[0]?) hk;simpa using this
  have hk':ops.toList.drop (k+1)=rest:=by
   have:=au List.tail hk;simpa using this
  simp only[af,List.range'_succ,wpOps,ho];rw[Cq hf];simp only[cR]at h;split at h
  ·rename_i x hnx
   have hop:o.op=.next x false:=by
    unfold dU at hnx;split at hnx
    ·rename_i heq;injection hnx with hnx;subst hnx;exact heq
    ·cases hnx
   obtain⟨hw,h⟩:=h;rw[az hw]
   left
   refine J9 hs hf hop h ?_;rintro v σ' y w' hK ⟨c',rfl,rfl,k1,k2,k3⟩;exact oO he hfs hev rest (k+1) hk' k2 (FR.put (FR.mono k1 hf) k3 o.dst) (by rw[put_defers];exact hd) hK c0 (hx.trans k1)
  ·split at h
   case h_2=>exact h.elim
   rename_i fr1 σ1 hst;unfold bL at hst;simp only[AG]at hst;split at hst
   ·rename_i hw;rw[az hw]
    left
    split at hst
    case h_2=>cases hst
    rename_i v σ2 hop;injection hst with hst;injection hst with e1 e2;subst e1 e2;refine CZ he hfs hev hs hf hop ?_;rintro x w' ⟨c',rfl,rfl,k1,k2,k3⟩;exact oO he hfs hev rest (k+1) hk' k2 (FR.put (FR.mono k1 hf) k3 o.dst) (by rw[put_defers];exact hd) h c0 (hx.trans k1)
   ·rename_i hw;rw[an hw];injection hst with hst;injection hst with e1 e2;subst e1 e2;exact oO he hfs hev rest (k+1) hk' hs (hf.put .undef o.dst) (by rw[put_defers];exact hd) h c0 hx
def RunA (P:Program) (E:Env) (n:Nat):Prop:=∀(code:Code) (fr:Fr) (Z:Sg) (Q:X->Fr->Sg->Prop),eR E n code fr Z Q ->
 ∀(c:Cx) (a:Act),SR E c->c.Z=Z->FR c fr a.tmps->a.defers=[]->code.wp P (vW E c Q) a c.w
theorem Ey (he:cB P E)(hfs:fR P E)(hmix:P.follows .mixedOrders=true):∀n,RunA P E n /\
  ∀(c1:Code) (fr:Fr) (Z:Sg) (Q:X->Fr->Sg->Prop),eR E n (.loop c1) fr Z Q->∀(c:Cx) (a:Act),SR E c->c.Z=Z->FR c fr a.tmps->a.defers=[] ->
   ∀c0,Ext c0 c->Code.rounds P c1 (vW E c0 Q) n a c.w
 |0=>by
  constructor
  ·intro code fr Z Q h;simp only[eR]at h
  ·intro c1 fr Z Q h;simp only[eR]at h
 |n+1=>by
  obtain⟨ih,ihl⟩:=Ey he hfs hmix n
  have loops:∀(c1:Code) (fr:Fr) (Z:Sg) (Q:X->Fr->Sg->Prop),eR E (n+1) (.loop c1) fr Z Q->∀(c:Cx) (a:Act),SR E c->c.Z=Z->FR c fr a.tmps->a.defers=[] ->
    ∀c0,Ext c0 c->Code.rounds P c1 (vW E c0 Q) (n+1) a c.w:=by
   intro c1 fr Z Q h c a hs hσ hf hd c0 hx;rw[rounds_succ];simp only[eR]at h;refine wp_mono (ih _ _ _ _ h c a hs hσ hf hd) ?_;rintro e a1 w1 ⟨x,fr1,σ1,hq,hx1,hd1,c',rfl,hσ1,k1,k2,k3⟩;cases x with
   |normal=>
    cases hx1;exact ihl c1 fr1 σ1 Q hq c' a1 k2 hσ1 k3 hd1 c0 (hx.trans k1)
   |exit id=>cases hx1;exact⟨.exit id,fr1,σ1,hq,rfl,hd1,c',rfl,hσ1,hx.trans k1,k2,k3⟩
   |ret=>cases hx1;exact⟨.ret,fr1,σ1,hq,rfl,hd1,c',rfl,hσ1,hx.trans k1,k2,k3⟩
  refine⟨λcode fr Z Q h c a hs hσ hf hd=>?_,loops⟩;subst hσ;cases code with
  |skip=>
   simp only[eR]at h;exact wp_skip ⟨.normal,fr,c.Z,h,rfl,hd,c,rfl,rfl,Ext.refl c,hs,hf⟩
  |exit id=>
   simp only[eR]at h;exact wp_exit ⟨.exit id,fr,c.Z,h,rfl,hd,c,rfl,rfl,Ext.refl c,hs,hf⟩
  |ret=>
   simp only[eR]at h;exact wp_ret ⟨.ret,fr,c.Z,h,rfl,hd,c,rfl,rfl,Ext.refl c,hs,hf⟩
  |seq x y=>
   simp only[eR]at h;refine wp_seq ?_;refine wp_mono (ih _ _ _ _ h c a hs rfl hf hd) ?_;rintro e a1 w1 ⟨x,fr1,σ1,hq,hx1,hd1,c',rfl,hσ1,k1,k2,k3⟩;cases x with
   |normal=>
    cases hx1;exact wp_mono (ih _ _ _ _ hq c' a1 k2 hσ1 k3 hd1) λe a w hp=>hp.trans k1
   |exit id=>cases hx1;exact⟨.exit id,fr1,σ1,hq,rfl,hd1,c',rfl,hσ1,k1,k2,k3⟩
   |ret=>cases hx1;exact⟨.ret,fr1,σ1,hq,rfl,hd1,c',rfl,hσ1,k1,k2,k3⟩
  |cond x y z=>
   simp only[eR]at h;split at h
   ·rename_i hx;exact wp_cond_true (aK hf hx).gH (ih _ _ _ _ h c a hs rfl hf hd)
   ·rename_i hx;exact wp_cond_false (aK hf hx).gH (ih _ _ _ _ h c a hs rfl hf hd)
   ·exact h.elim
  |block id x=>
   simp only[eR]at h;refine wp_block ?_;refine wp_mono (ih _ _ _ _ h c a hs rfl hf hd) ?_;rintro e a1 w1 ⟨x,fr1,σ1,hq,hx1,hp⟩;cases x with
   |normal=>cases hx1;exact⟨.normal,fr1,σ1,hq,rfl,hp⟩
   |ret=>cases hx1;exact⟨.ret,fr1,σ1,hq,rfl,hp⟩
   |exit id'=>
    cases hx1;simp only[Exit.inBlock];simp only at hq;split at hq
    ·rename_i heq;rw[az heq];exact⟨.normal,fr1,σ1,hq,rfl,hp⟩
    ·rename_i heq;rw[an heq];exact⟨.exit id',fr1,σ1,hq,rfl,hp⟩
  |loop x=>exact wp_loop_rounds (n+1) (loops x fr c.Z Q h c a hs rfl hf hd c (Ext.refl c))
  |region id ops draw=>
   simp only[eR]at h;cases draw with
   |false=>
    refine wp_region ?_;simp only at h;rw[List.range_eq_range',<- jg];exact oO he hfs (rT he hfs hmix n).1 ops.toList 0 (by simp) hs hf hd h c (Ext.refl c)
   |true=>
    simp only at h;split at h
    case h_2=>exact h.elim
    rename_i fr1 σ1 h1
    have hr:ev E (n+1) (.region id ops true) fr c.Z=some (.normal,fr1,σ1):=by
     simp only[ev,bf,h1]
    exact wp_mono ((rT he hfs hmix (n+1)).1 _ _ _ _ _ _ hr c a hs rfl hf hd) λe a w hp=>⟨.normal,fr1,σ1,h,hp⟩
  |_=>simp only[eR]at h
def Cf (E:Env) (n:Nat) (F:Fn) (args:List V) (Z:Sg) (R:V->Sg->Prop):Prop:=
 ∃fr,Fr.init F.ntmps args=some fr/\eR E n F.code fr Z λx fr Z=>(x=.normal\/x=.ret)/\∃vs,results E fr Z F.results=some vs/\R (match vs with | [v]=>v | vs=>.fM vs) Z
theorem xB (he:cB P E)(hfs:fR P E)(hmix:P.follows .mixedOrders=true) {f:Nat}{F:Fn}(hF:E.fn f=some F) {c:Cx}(hs:SR E c) {vs:List V}{xs:List Value}(hv:fD c vs xs) {n:Nat}{R:V->Sg->Prop}
  (h:Cf E n F vs c.Z R):Calls P f xs.toArray c.w λe w'=>∃x v σ',e=.returned x/\R v σ'/\jI E c v σ' x w':=by
 obtain⟨fn,h1,h2,h3,h4,h5⟩:=hfs.fn f F hF;obtain⟨fr0,hfr0,h⟩:=h;refine calls_of_wp h1 h2 ?_
 have:=(Ey he hfs hmix n).1 _ _ _ _ h c { tmps:=xs.toArray++Array.replicate (fn.ntmps-xs.toArray.size) undef,defers:=[] } hs rfl (by
  have:=FR.init hv hfr0;simpa [h3]using this) rfl
 refine wp_mono this ?_;rintro e a w ⟨x,fr1,σ1,⟨hq1,us,hu,hR⟩,hx,hd,c',rfl,rfl,k1,k2,k3⟩
 have fin:a.defers=[]/\∃v',(Go.results fn a.tmps).run P c'.w=.ok v' c'.w/\∃x v σ',Ending.returned v'=.returned x/\R v σ'/\jI E c v σ' x c'.w:=by
  refine⟨hd,?_⟩;obtain⟨ys,g1,g2⟩:=jL he k2 k3 hu
  have run:∀v',(if h:ys.toArray.size=1 then ys.toArray[0] else .tuple ys.toArray)=v'->(Go.results fn a.tmps).run P c'.w=.ok v' c'.w:=by
   rintro v' rfl;rw[sS,o8,h4];simp only[Sem.run_bind,Sem.run_map];rw[g1];simp
  cases g2 with
  |nil=>exact⟨_,run _ rfl,_,_,_,rfl,hR,c',rfl,rfl,k1,k2,.fM [] [] .nil⟩
  |cons u y us ys hy hr=>
   cases hr with
   |nil=>exact⟨y,run _ (by simp),_,_,_,rfl,hR,c',rfl,rfl,k1,k2,hy⟩
   |cons u' y' us ys hy' hr=>
    refine⟨.tuple (y::y'::ys).toArray,run _ ?_,_,_,_,rfl,hR,c',rfl,rfl,k1,k2,.fM _ _ (.cons _ _ _ _ hy (.cons _ _ _ _ hy' hr))⟩;rw[dif_neg (by simp)]
 rcases hq1 with rfl | rfl
 ·cases hx;exact fin
 ·cases hx;exact fin
theorem qY (hfs:fR P E) {f:Nat}{F:Fn}(hF:E.fn f=some F) {xs:List Value}{w:World}{R:Value->World->Prop}(h:Calls P f xs.toArray w λe w'=>∃x,e=.returned x/\R x w'):sE P f xs w R:=by
 obtain⟨fn,f1,f2,f3,f4,f5⟩:=hfs.fn f F hF;have f5':¬ fn.name = "runtime.NumGoroutine" := by simpa using f5
 exact .inl ⟨by simp[callFunc,f1,f5',f2],h⟩
theorem F9 (he:cB P E)(hfs:fR P E)(hmix:P.follows .mixedOrders=true) {f:Nat}{F:Fn}(hF:E.fn f=some F) {s:List V->Option V}
  (h:∀vs v,s vs=some v->∃n,Cf E n F vs [] λu Z=>cG Z E.ty false u=some v):fF P E f s:=by
 intro d vs xs v hd hs hv hm;obtain⟨n,hn⟩:=h vs v hm;refine qY hfs hF ?_;have hi:=rR hs []
 have hvi:fD (d.inner (d.fQ [])) vs xs:=by
  refine fD.mono ?_ hv
  have ho:∀k,¬ d.own k:=by
   rintro k ⟨b,⟨o,ho,_⟩,_⟩;rw[hd]at ho;cases ho
  have hanc:(d.inner (d.fQ [])).nJ=d.nJ:=by
   funext k;exact propext ⟨λh=>h.resolve_right (ho k),λh=>.inl h⟩
  exact⟨OF _,λk _ _=>⟨rfl,nE⟩,by rw[hd];exact OF _,λ_ _=>rfl,λ_ _=>rfl,λ_ _=>rfl,hanc,rfl,rfl,rfl⟩
 refine (xB he hfs hmix hF hi hvi hn).mono ?_;rintro e w' ⟨x,u,σ1,rfl,hR,d1,rfl,hσ,hx,hsd,hxv⟩;rw[<- hσ]at hR;obtain⟨g1,g2,g3⟩:=pE hs hx hsd hxv hR;exact⟨x,rfl,(d.fQ []).outer d1.w,rfl,hd,g1,g2,g3⟩
end
end
section
theorem iW.perm {c:Cx}{es es':List (V × V)}{l:List MapEntry}(h:iW c es l)(hp:es.Perm es'):∃l',l.Perm l'/\iW c es' l':=by
 induction hp generalizing l with
 |nil=>exact⟨l,.refl _,h⟩
 |cons x _ ih=>
  cases h with | cons k v es e l hk hv hr=>
  obtain⟨l',h1,h2⟩:=ih hr;exact⟨e::l',.cons _ h1,.cons _ _ _ _ _ hk hv h2⟩
 |swap x y l0=>
  cases h with | cons k v es e l hk hv hr=>
  cases hr with | cons k' v' es e' l hk' hv' hr=>
  exact⟨e'::e::l,.swap ..,.cons _ _ _ _ _ hk' hv' (.cons _ _ _ _ _ hk hv hr)⟩
 |trans _ _ ih1 ih2=>
  obtain⟨l1,h1,h2⟩:=ih1 h;obtain⟨l2,h3,h4⟩:=ih2 h2;exact⟨l2,h1.trans h3,h4⟩
def ks:V × V->List Nat
 |(.str k,_)=>k
 |_=>[]
def jF (es:List (V × V)):Prop:=∀e∈es,∃k,e.1=.str k
theorem H_ {k:List Nat}{v:V}:∀{es:List (V × V)},jF es->(es.map ks).Nodup->∃l,kN jU (.str k) v es=some l/\jF l/\(l.map ks).Nodup/\∀e,e∈l ↔ e=(.str k,v)\/(e∈es/\ks e≠k)
 | [],_,_=>⟨[(.str k,v)],rfl,by intro e he;simp at he;subst he;exact⟨k,rfl⟩,by simp,by simp⟩
 |(k',v')::es,h,hn=>by
  obtain⟨k2,hk2⟩:=h (k',v') (IN ..);simp only at hk2;subst hk2;simp only[bh,dn]at hn;have hr:jF es:=λe he=>h e (ae _ he);by_cases e:k=k2
  ·subst e;have hb:jU (.str k) (.str k)=some true:=by simp[jU,seq_eq]
   refine⟨(.str k,v)::es,by simp only[kN,hb],?_,?_,?_⟩
   ·intro e he;rcases IT.1 he with rfl | he
    ·exact⟨k,rfl⟩
    ·exact hr e he
   ·simp only[bh,dn];exact hn
   ·intro e;simp only[IT];constructor
    ·rintro (rfl | he)
     ·exact .inl rfl
     ·exact .inr ⟨.inr he,λhk=>hn.1 (cv.2 ⟨e,he,hk⟩)⟩
    ·rintro (rfl | ⟨rfl | he,hk⟩)
     ·exact .inl rfl
     ·exact absurd rfl hk
     ·exact .inr he
  ·obtain⟨l,h1,h2,h3,h4⟩:=H_ (k:=k) (v:=v) hr hn.2;have hb:jU (.str k) (.str k2)=some false:=by simp[jU,seq_eq,e]
   refine⟨(.str k2,v')::l,by simp only[kN,hb,h1],?_,?_,?_⟩
   ·intro e he;rcases IT.1 he with rfl | he
    ·exact⟨k2,rfl⟩
    ·exact h2 e he
   ·simp only[bh,dn];refine⟨λhm=>?_,h3⟩;obtain⟨x,hx,hxk⟩:=cv.1 hm;rcases (h4 x).1 hx with rfl | ⟨hx,_⟩
    ·exact e hxk
    ·exact hn.1 (cv.2 ⟨x,hx,hxk⟩)
   ·intro x;simp only[IT,h4];constructor
    ·rintro (rfl | rfl | ⟨hx,hk⟩)
     ·exact .inr ⟨.inl rfl,λhk=>e hk.symm⟩
     ·exact .inl rfl
     ·exact .inr ⟨.inr hx,hk⟩
    ·rintro (rfl | ⟨rfl | hx,hk⟩)
     ·exact .inr (.inl rfl)
     ·exact .inl rfl
     ·exact .inr (.inr ⟨hx,hk⟩)
theorem pR:∀{p:List (V × V)}{es:List (V × V)},jF p->(p.map ks).Nodup->jF es->(es.map ks).Nodup->∃l,lK es p=some l/\jF l/\(l.map ks).Nodup/\∀e,e∈l ↔ e∈p\/(e∈es/\ks e ∉ p.map ks)
 | [],es,_,_,h,hn=>⟨es,rfl,h,hn,by simp⟩
 |(k',v)::p,es,hp,hpn,h,hn=>by
  obtain⟨k,hk⟩:=hp (k',v) (IN ..);simp only at hk;subst hk;simp only[bh,dn]at hpn;obtain⟨l1,a1,a2,a3,a4⟩:=H_ (k:=k) (v:=v) h hn;obtain⟨l,b1,b2,b3,b4⟩:=pR (p:=p) (es:=l1) (λe he=>hp e (ae _ he)) hpn.2 a2 a3;refine⟨l,?_,b2,b3,?_⟩
  ·simp only[lK,a1,b1]
  ·intro e;rw[b4,a4];simp only[IT,bh,qm];constructor
   ·rintro (he | ⟨rfl | ⟨he,h1⟩,h2⟩)
    ·exact .inl (.inr he)
    ·exact .inl (.inl rfl)
    ·exact .inr ⟨he,h1,h2⟩
   ·rintro ((rfl | he) | ⟨he,h1,h2⟩)
    ·exact .inr ⟨.inl rfl,hpn.1⟩
    ·exact .inl he
    ·exact .inr ⟨.inr ⟨he,h1⟩,h2⟩
theorem HQ {p p' es:List (V × V)}{l l':List (V × V)}(hpp:p.Perm p')(hp:jF p)(hpn:(p.map ks).Nodup)(h:jF es)(hn:(es.map ks).Nodup)(h1:lK es p=some l)(h2:lK es p'=some l'):l.Perm l':=by
 obtain⟨a,a1,a2,a3,a4⟩:=pR hp hpn h hn;obtain⟨b,b1,b2,b3,b4⟩:=pR (p:=p') (λe he=>hp e (hpp.mem_iff.2 he)) ((hpp.map ks).nodup_iff.1 hpn) h hn;rw[a1]at h1;injection h1 with h1;subst h1;rw[b1]at h2;injection h2 with h2;subst h2;have nd:∀{l:List (V × V)},(l.map ks).Nodup->l.Nodup:=λh=>(List.pairwise_map.1 h).imp λh e=>h (by rw[e]);refine (List.perm_ext_iff_of_nodup (nd a3) (nd b3)).2 λe=>?_;rw[a4,b4,hpp.mem_iff,(hpp.map ks).mem_iff]
section
variable {E:Env}
def aside (Z:Sg) (d:Nat):Sg:=Z.mapIdx λj o=>if j=d then o else .dead
theorem yB {Z:Sg}{d:Nat}:(aside Z d)[d]?=Z[d]?:=by
 simp[aside]
theorem BJ {Z:Sg}{d j:Nat}{o:O}(h:(aside Z d)[j]?=some o)(hj:j≠d):o=.dead:=by
 simp only[aside,List.getElem?_mapIdx,Option.map_eq_some_iff]at h;obtain⟨o',_,h⟩:=h;rw[an hj]at h;exact h.symm
theorem pG (Z:Sg) (d:Nat):(aside Z d).length=Z.length:=by simp[aside]
def Cx.aside (c:Cx) (d:Nat):Cx:={ c with Z:=Ax.aside c.Z d }
theorem lQ {Z:Sg}{d j:Nat}(h:live (aside Z d) j):j=d/\live Z d:=by
 obtain⟨o,ho,ha⟩:=h;by_cases e:j=d
 ·subst e;exact⟨rfl,o,by rw[<- yB];exact ho,ha⟩
 ·have:=BJ ho e;subst this;cases ha
theorem Cx.Rl {c:Cx}(h:SR E c) (d:Nat):SR E (c.aside d)/\Ext c (c.aside d):=by
 have hext:Ext c (c.aside d):=⟨OF _,λk _ ho=>⟨rfl,λ⟨j,hj,e⟩=>by
   obtain⟨rfl,hl⟩:=lQ hj;exact ho ⟨j,hl,e⟩⟩,by simp[Cx.aside,pG],λ_ _=>rfl,λ_ _=>rfl,λ_ _=>rfl,rfl,rfl,rfl,rfl⟩
 refine⟨⟨λi j hi hj _=>by rw[(lQ hi).1,(lQ hj).1],λj o ho=>?_,λj hj=>?_,h.iX,p_ hext h.gl⟩,hext⟩
 ·by_cases e:j=d
  ·subst e;have ho':c.Z[j]?=some o:=by rw[<- yB];exact ho
   exact (h.obj j o ho').mono hext (AI.1 ho').1 rfl
  ·have:=BJ ho e;subst this;exact True.intro
 ·obtain⟨rfl,hl⟩:=lQ hj;exact h.nJ j hl
theorem SR.restore {c c':Cx}{d:Nat}{o:O}(hs:SR E c)(hlv:live c.Z d)(hx:Ext (c.aside d) c') {σ3:Sg}(hlen:σ3.length=c'.Z.length)
  (hold:∀j,j<c.Z.length->j≠d->σ3[j]?=c.Z[j]?)(hd:σ3[d]?=some o)(hnew:∀j o,c.Z.length<=j->σ3[j]?=some o->o=.dead)
  (hob:Ext c { c' with Z:=σ3 }->uI E { c' with Z:=σ3 } d o)(hanc:∀k,c'.nJ k->k<c'.w.heap.size):SR E { c' with Z:=σ3 }/\Ext c { c' with Z:=σ3 }:=by
 have hdl:=dX hlv;have hblk:∀j,j<c.Z.length->c'.blk j=c.blk j:=λj hj=>hx.blk j (by simpa [Cx.aside,pG]using hj)
 have lv:∀{j},live σ3 j->j<c.Z.length/\live c.Z j:=by
  rintro j ⟨o',ho,ha⟩;rcases cj j c.Z.length with hj | hj
  ·by_cases e:j=d
   ·subst e;exact⟨hj,hlv⟩
   ·exact⟨hj,o',by rw[<- hold j hj e];exact ho,ha⟩
  ·have:=hnew j o' hj ho;subst this;cases ha
 have hext:Ext c { c' with Z:=σ3 }:=by
  refine⟨hx.size,λk hk ho=>?_,?_,hblk,λj hj=>hx.tot j (by simpa [Cx.aside,pG]using hj),λj hj=>hx.yD j (by simpa [Cx.aside,pG]using hj),hx.nJ,hx.os,hx.tape,hx.output⟩
  ·have ho':¬ (c.aside d).own k:=λ⟨j,hj,e⟩=>by
    obtain⟨rfl,hl⟩:=lQ hj;exact ho ⟨j,hl,e⟩
   refine⟨(hx.keep k hk ho').1,?_⟩;rintro⟨j,hj,e⟩;obtain⟨h1,h2⟩:=lv hj;exact ho ⟨j,h2,by rw[<- hblk j h1];exact e⟩
  ·show c.Z.length<=σ3.length;rw[hlen];simpa [Cx.aside,pG]using hx.len
 refine⟨⟨λi j hi hj e=>?_,λj o' ho=>?_,λj hj=>?_,hanc,p_ hext hs.gl⟩,hext⟩
 ·obtain⟨i1,i2⟩:=lv hi;obtain⟨j1,j2⟩:=lv hj;have e:c'.blk i=c'.blk j:=e;rw[hblk i i1,hblk j j1]at e;exact hs.inj i j i2 j2 e
 ·have ho:σ3[j]?=some o':=ho;rcases cj j c.Z.length with hj | hj
  ·by_cases e:j=d
   ·subst e;rw[hd]at ho;injection ho with ho;subst ho;exact hob hext
   ·have ho':c.Z[j]?=some o':=by rw[<- hold j hj e];exact ho
    by_cases hl:live c.Z j
    ·refine (hs.obj j o' ho').mono hext hj ?_
     have hnk:¬ (c.aside d).own (c.blk j):=λ⟨i,hi,h⟩=>by
      obtain⟨rfl,hl'⟩:=lQ hi;exact e (hs.inj j i hl hl' h.symm)
     exact (hx.keep _ (hs.lt hl) hnk).1
    ·cases o' with
     |dead=>exact True.intro
     |_=>exact (hl ⟨_,ho',rfl⟩).elim
  ·have:=hnew j o' hj ho;subst this;exact True.intro
 ·obtain⟨j1,j2⟩:=lv hj;show ¬ c'.nJ (c'.blk j);rw[hblk j j1,show c'.nJ=c.nJ from hx.nJ];exact hs.nJ j j2
theorem Ps {c c':Cx}{v:V}{x:Value}(hp:plainCell v=true)(h:VR c v x):VR c' v x:=by
 cases v with
 |bool b=>rw[h.gH];exact .inl (.bool _)
 |int k n=>rw[h.eD];exact .inl (.int _ _)
 |str s=>obtain⟨b,rfl,rfl⟩:=h.eU;exact .inl (.str _)
 |_=>cases hp
theorem xP {c:Cx}{w:World}{I:Bool->Nat->Prop}{v:V}{x:Value}(hp:plainCell v=true)(h:VR c v x):IR w I v x:=by
 cases v with
 |bool b=>rw[h.gH];exact .bool _
 |int k n=>rw[h.eD];exact .int _ _
 |str s=>obtain⟨b,rfl,rfl⟩:=h.eU;exact .str _
 |_=>cases hp
def tW (es:List (V × V)):Prop:=∀e∈es,(∃k,e.1=.str k)/\plainCell e.2=true
theorem DR {es:List (V × V)}(h:GO es=true):tW es:=by
 intro e he;simp only[GO,ez]at h;have:=h e he;simp only[ai]at this;refine⟨?_,this.2⟩;cases hk:e.1 with
 |str k=>exact⟨k,rfl⟩
 |_=>rw[hk]at this;simp at this
theorem tW.strs {es:List (V × V)}(h:tW es):jF es:=λe he=>(h e he).1
theorem iW.copy {c c':Cx}{es:List (V × V)}{l:List MapEntry}(ho:tW es)(h:iW c es l):iW c' es l:=by
 induction h with
 |nil=>exact .nil
 |cons k v es e l hk hv hr ih=>
  obtain⟨⟨s,rfl⟩,hp⟩:=ho _ (IN ..);refine .cons _ _ _ _ _ ?_ (Ps hp hv) (ih λe he=>ho e (ae _ he));cases hk with | one hk=>
  exact .one (xP (c:=c) rfl (.inl hk))
theorem iW.acr {c:Cx}{w:World}{I:Bool->Nat->Prop}{es:List (V × V)}{l:List MapEntry}(ho:tW es)(h:iW c es l):sF w I es l:=by
 induction h with
 |nil=>exact .nil
 |cons k v es e l hk hv hr ih=>
  obtain⟨⟨s,rfl⟩,hp⟩:=ho _ (IN ..);refine .cons _ _ _ _ _ ?_ (.one (xP hp hv)) (ih λe he=>ho e (ae _ he));cases hk with | one hk=>
  exact .one (xP (c:=c) rfl (.inl hk))
theorem iW.keys {c:Cx}{es:List (V × V)}{l:List MapEntry}(ho:jF es)(h:iW c es l)(hn:(l.map (·.key)).Nodup):(es.map ks).Nodup:=by
 induction h with
 |nil=>simp
 |cons k v es e l hk hv hr ih=>
  obtain⟨s,hs⟩:=ho (k,v) (IN ..);simp only at hs;subst hs;simp only[bh,dn]at hn ⊢;refine⟨λhm=>hn.1 ?_,ih (λe he=>ho e (ae _ he)) hn.2⟩;obtain⟨x,hx,hxk⟩:=cv.1 hm;obtain⟨b,hb,hbs⟩:=(sG.vr hk).eU
  have find:∀{es:List (V × V)}{l:List MapEntry},iW c es l->x∈es->∃m∈l,sG c.w c.bD x.1 m.key:=by
   intro es l h
   induction h with
   |nil=>intro hx;cases hx
   |cons k' v' es e' l hk' hv' hr' ih'=>
    intro hx;rcases IT.1 hx with rfl | hx
    ·exact⟨e',IN ..,hk'⟩
    ·obtain⟨m,h1,h2⟩:=ih' hx;exact⟨m,ae _ h1,h2⟩
  obtain⟨m,hm1,hm2⟩:=find hr hx;obtain⟨s',hs'⟩:=ho x (ae _ hx);rw[hs']at hm2;obtain⟨b',hb',hbs'⟩:=(sG.vr hm2).eU
  have e1:s'=s:=by
   have:ks x=s:=hxk;obtain⟨x1,x2⟩:=x;simp only at hs';subst hs';exact this
  subst e1;have:b'=b:=bytes_inj (by rw[hbs,hbs']);rw[hb];exact cv.2 ⟨m,hm1,by rw[hb',this]⟩
end
end
end Go.Ax
end
section
namespace Go.Ax
open Go Go.Proofs
section
theorem cC {E:Env}{t sz by_:Nat}{z:V}(h:E.ty t=some { kd:=.str,size:=sz,bytes:=by_,zero:=z }):dF E t=jU:=by
 funext x y;unfold dF jU;rw[h];cases x <;> first | rfl | (cases y <;> rfl)
def zZ:Code->Code
 | .seq _ (.block _ (.loop c))=>c
 |c=>c
section
variable {E:Env}{sz by_ sz9 by9:Nat}{zv z9:V}
theorem Pt {v:V}(h:plainCell v=true):fB v=true:=by cases v <;> first | rfl | cases h
theorem DQ (hty:E.ty 109=some { kd:=.map 9 4,size:=sz,bytes:=by_,zero:=zv })(h9:E.ty 9=some { kd:=.str,size:=sz9,bytes:=by9,zero:=z9 })
  (n:Nat) (fr:Fr)(hn:fr.n=16) (b L:Nat)(hbL:b≠L)(h0:fr.get 0=some (.mp b))(h7:fr.get 7=some (.ref L 0)) (Z:Sg) (left:List (V × V)) (cur:Option (V × V)) (es:List (V × V))(hL:Z[L]?=some (.s_ left cur))(hb:Z[b]?=some (.map es)) (Q:X->Fr->Sg->Prop)
  (hok:tW left)
  (h1:left=[]->∀fr,Q (.exit 0) fr Z)
  (h2:∀a e z,left=a++e::z->∃es',kN jU e.1 e.2 es=some es'/\∀fr:Fr,fr.n=16->fr.get 0=some (.mp b)->fr.get 7=some (.ref L 0)->Q .normal fr ((Z.set L (.s_ (a++z) (some e))).set b (.map es'))) :
  eR E (n+20) (zZ (aA Tryz.f125).code) fr Z Q:=by
 simp only[aA,Tryz.f125,aq,zZ]
 have hLs:∀o,(Z.set L o)[L]?=some o:=λo=>by
  have:=(AI.1 hL).1;simp[this]
 have hLb:∀o,(Z.set L o)[b]?=some (.map es):=λo=>by rw[No (λe=>hbL e.symm)];exact hb
 simp only[eR,cR,dU,cA,E2,aR,h7,hL,bf,true_and,cT,bL,kY,comp,aS,cU,AH,dR,cg,Fr.aH,Fr.aZ,hn,h0,bg,ck,
  reduceEqDiff,reduceLT,da,ay,reduceCtorEq,hLs,hLb,mapUpdate,hty]
 refine⟨?_,?_⟩
 ·intro hl;exact h1 hl _
 ·intro a e z' hl;obtain⟨es',hm,hq⟩:=h2 a e z' hl;obtain⟨⟨k,hk⟩,hp⟩:=hok e (by rw[hl];simp);have hko:eF E 9 e.1=true:=by simp only[eF,h9,hk]
  have hvo:fB e.2=true:=Pt hp;rw[cC h9];simp only[hko,hvo,dj,je,ah,ay,hm,cg];refine hq _ ?_ ?_ ?_ <;> simp only[Fr.aH,Fr.aZ,hn,h0,h7,reduceEqDiff,reduceLT,da,ay,reduceCtorEq]
theorem O3 (Z:Sg) (x y:O):(Z++[x]).set Z.length y=Z++[y]:=by simp
theorem MS (Z:Sg) (x y:O) {b:Nat}(h:b<Z.length):(Z++[x]).set b y=Z.set b y++[x]:=by rw[List.set_append_left _ _ h]
theorem NK (hty:E.ty 109=some { kd:=.map 9 4,size:=sz,bytes:=by_,zero:=zv })(h9:E.ty 9=some { kd:=.str,size:=sz9,bytes:=by9,zero:=z9 })
  {es0 src:List (V × V)}(hs0:jF es0)(hn0:(es0.map ks).Nodup)(hsrc:tW src)(hns:(src.map ks).Nodup) {b:Nat}{σ0:Sg}(hb:b<σ0.length) :
  ∀(m:Nat) (left p es:List (V × V)) (cur:Option (V × V)) (fr:Fr),left.length=m->(p++left).Perm src->lK es0 p=some es->fr.n=16->fr.get 0=some (.mp b)->fr.get 7=some (.ref σ0.length 0) ->
   eR E (m+21) (.loop (zZ (aA Tryz.f125).code)) fr (σ0.set b (.map es)++[.s_ left cur]) λx fr Z=>x=.exit 0/\∃es2 p2 cur2,p2.Perm src/\lK es0 p2=some es2/\Z=σ0.set b (.map es2)++[.s_ [] cur2]:=by
 intro m
 induction m with
 |zero=>
  intro left p es cur fr hl hp he hn h0 h7;have:left=[]:=ik.1 hl;subst this;show eR E (20+1) _ _ _ _;rw[eR];refine DQ hty h9 0 fr hn b σ0.length (by omega) h0 h7 _ [] cur es (by simp) (by rw[b8 (by simpa using hb)];simp[hb]) _ (λe he=>by cases he) ?_ ?_
  ·intro _ fr';exact⟨rfl,es,p,cur,by simpa using hp,he,rfl⟩
  ·intro a e z h;simp at h
 |succ m ih=>
  intro left p es cur fr hl hp he hn h0 h7;show eR E ((m+1)+20+1) _ _ _ _;rw[eR];have hmem:∀e∈left,e∈src:=λe h=>hp.mem_iff.1 (k9 _ h);refine DQ hty h9 (m+1) fr hn b σ0.length (by omega) h0 h7 _ left cur es (by simp) (by rw[b8 (by simpa using hb)];simp[hb]) _ (λe h=>hsrc e (hmem e h)) ?_ ?_
  ·intro h;rw[h]at hl;simp at hl
  ·intro a e z h;subst h
   have hp2:((p++[e])++(a++z)).Perm src:=by
    refine List.Perm.trans ?_ hp;rw[cw];exact qd p (by simpa using (jw (l₁:=a) (a:=e) (l₂:=z)).symm)
   have hpn:((p++[e]).map ks).Nodup:=by
    have:=(hp2.map ks).nodup_iff.2 hns;rw[gp]at this;exact (k8.1 this).1
   have hps:jF (p++[e]):=λx hx=>(hsrc x (hp2.mem_iff.1 (List.mem_append_left _ hx))).1;obtain⟨l2,g1,g2,g3,_⟩:=pR hps hpn hs0 hn0
   have VN:∀(p:List (V × V)) (es0 es:List (V × V)),lK es0 p=some es->lK es0 (p++[e])=kN jU e.1 e.2 es:=by
    intro p
    induction p with
    |nil=>
     intro es0 es h;simp only[lK]at h;injection h with h;subst h;simp only[cz,lK];cases kN jU e.1 e.2 es0 <;> rfl
    |cons x p ih=>
     intro es0 es h;simp only[lK]at h;simp only[eu,lK];split at h
     ·exact ih _ _ h
     ·cases h
   have hm:=VN p es0 es he;rw[g1]at hm;refine⟨l2,hm.symm,λfr' k1 k2 k3=>?_⟩;have:=ih (a++z) (p++[e]) l2 (some e) fr' (by simp at hl ⊢;omega) hp2 g1 k1 k2 k3
   have e1:((σ0.set b (O.map es)++[O.s_ (a++e::z) cur]).set σ0.length (O.s_ (a++z) (some e))).set b (O.map l2)=σ0.set b (O.map l2)++[O.s_ (a++z) (some e)]:=by
    have h1:=O3 (σ0.set b (.map es)) (O.s_ (a++e::z) cur) (O.s_ (a++z) (some e));rw[ec]at h1;rw[h1,MS _ _ _ (by simpa using hb),List.set_set]
   rw[e1];exact this
theorem eK:∀(n:Nat) {c:Code}{fr:Fr}{Z:Sg}{Q Q':X->Fr->Sg->Prop},eR E n c fr Z Q->(∀x fr Z,Q x fr Z->Q' x fr Z)->eR E n c fr Z Q'
 |0,_,_,_,_,_,h,_=>by simp only[eR]at h
 |n+1,c,fr,Z,Q,Q',h,hq=>by
  have ops:∀(ops:Array Oper) (l:List Oper) (fr:Fr) (Z:Sg),cR E (ev E n) ops l fr Z (Q .normal)->cR E (ev E n) ops l fr Z (Q' .normal):=by
   intro ops l
   induction l with
   |nil=>intro fr Z h;exact hq _ _ _ h
   |cons o l ih=>
    intro fr Z h;simp only[cR]at h ⊢;split
    ·rename_i x hx;rw[hx]at h;simp only at h;refine⟨h.1,?_⟩;have h:=h.2;unfold E2 at h ⊢;split
     ·rename_i bb hbb;rw[hbb]at h;simp only at h;split
      ·rename_i lf cu hlf;rw[hlf]at h;exact⟨λe=>ih _ _ (h.1 e),λa e z e'=>ih _ _ (h.2 a e z e')⟩
      ·rename_i hne;split at h
       ·rename_i lf cu hlf;exact (hne _ _ hlf).elim
       ·exact h
     ·rename_i hne;split at h
      ·rename_i bb hbb;exact (hne _ hbb).elim
      ·exact h
    ·rename_i hx;rw[hx]at h;simp only at h;split
     ·rename_i fr' σ' hst;rw[hst]at h;exact ih _ _ h
     ·rename_i hst;rw[hst]at h;exact h
  cases c with
  |skip=>simp only[eR]at h ⊢;exact hq _ _ _ h
  |exit id=>simp only[eR]at h ⊢;exact hq _ _ _ h
  |ret=>simp only[eR]at h ⊢;exact hq _ _ _ h
  |seq a b=>
   rw[eR]at h ⊢;refine eK n h ?_;intro x fr Z hx;cases x with
   |normal=>exact eK n hx hq
   |exit id=>exact hq _ _ _ hx
   |ret=>exact hq _ _ _ hx
  |cond x y z=>
   simp only[eR]at h ⊢;split
   ·rename_i hc;rw[hc]at h;exact eK n h hq
   ·rename_i hc;rw[hc]at h;exact eK n h hq
   ·rename_i h1 h2;split at h
    ·rename_i hc;exact (h1 hc).elim
    ·rename_i hc;exact (h2 hc).elim
    ·exact h
  |block id a=>
   rw[eR]at h ⊢;refine eK n h ?_;intro x fr Z hx;cases x with
   |normal=>exact hq _ _ _ hx
   |exit id'=>
    simp only at hx ⊢;split
    ·rename_i e;rw[az e]at hx;exact hq _ _ _ hx
    ·rename_i e;rw[an e]at hx;exact hq _ _ _ hx
   |ret=>exact hq _ _ _ hx
  |loop a=>
   rw[eR]at h ⊢;refine eK n h ?_;intro x fr Z hx;cases x with
   |normal=>exact eK n hx hq
   |exit id=>exact hq _ _ _ hx
   |ret=>exact hq _ _ _ hx
  |region id ops' draw=>
   simp only[eR]at h ⊢;cases draw with
   |true=>
    simp only at h ⊢;split
    ·rename_i hd;rw[hd]at h;exact hq _ _ _ h
    ·rename_i hd;rw[hd]at h;exact h
   |false=>exact ops _ _ _ _ h
  |_=>simp only[eR]at h
def DS:Code->Code
 | .seq r _=>r
 |c=>c
theorem NL (hty:E.ty 109=some { kd:=.map 9 4,size:=sz,bytes:=by_,zero:=zv }) (n:Nat) {fr0:Fr}(hn:fr0.n=16) {b:Nat}(h0:fr0.get 0=some (.mp b)) {y:V}(h1:fr0.get 1=some y) {src:List (V × V)}(hy:(∃g,y=.imp g src)\/(y=.bX/\src=[])) {σ0:Sg}
  {Q:X->Fr->Sg->Prop}(hq:∀fr:Fr,fr.n=16->fr.get 0=some (.mp b)->fr.get 7=some (.ref σ0.length 0)->Q .normal fr (σ0++[.s_ src none])):eR E (n+1) (DS (aA Tryz.f125).code) fr0 σ0 Q:=by
 simp only[aA,Tryz.f125,aq,DS];rcases hy with⟨g,rfl⟩ | ⟨rfl,rfl⟩
 ·simp only[eR,cR,dU,cA,aR,bf,cT,bL,kY,comp,aS,pU,cg,Fr.aH,hn,h1,reduceLT,da,hty];refine hq _ ?_ ?_ ?_ <;> simp only[Fr.aH,Fr.aZ,hn,h0,reduceEqDiff,reduceLT,da,ay,bf,reduceCtorEq]
 ·simp only[eR,cR,dU,cA,aR,bf,cT,bL,kY,comp,aS,pU,cg,Fr.aH,hn,h1,reduceLT,da,hty];refine hq _ ?_ ?_ ?_ <;> simp only[Fr.aH,Fr.aZ,hn,h0,reduceEqDiff,reduceLT,da,ay,bf,reduceCtorEq]
theorem IU (hty:E.ty 109=some { kd:=.map 9 4,size:=sz,bytes:=by_,zero:=zv })(h9:E.ty 9=some { kd:=.str,size:=sz9,bytes:=by9,zero:=z9 })
  {es0 src:List (V × V)}(hs0:jF es0)(hn0:(es0.map ks).Nodup)(hsrc:tW src)(hns:(src.map ks).Nodup) {b:Nat}{σ0:Sg}(hb:σ0[b]?=some (.map es0)) {y:V}(hy:(∃g,y=.imp g src)\/(y=.bX/\src=[])) :
  Cf E (src.length+23) (aA Tryz.f125) [.mp b,y] σ0 λv Z=>v=.fM []/\∃es2 p2 cur2,p2.Perm src/\lK es0 p2=some es2/\Z=σ0.set b (.map es2)++[.s_ [] cur2]:=by
 have hbl:b<σ0.length:=(AI.1 hb).1
 have hset:σ0.set b (.map es0)=σ0:=by
  apply jx;intro j;by_cases e:b=j
  ·subst e;rw[hb];simp[hbl]
  ·rw[No e]
 obtain⟨fr0,hfr0⟩:∃fr0,Fr.init (aA Tryz.f125).ntmps [V.mp b,y]=some fr0:=⟨_,rfl⟩;have hn:fr0.n=16:=by injection hfr0 with h;rw[<- h];rfl
 have h0:fr0.get 0=some (.mp b):=by injection hfr0 with h;rw[<- h];rfl
 have h1:fr0.get 1=some y:=by injection hfr0 with h;rw[<- h];rfl
 refine⟨fr0,hfr0,?_⟩;show eR E ((src.length+22)+1) (.seq (DS (aA Tryz.f125).code) (.block 0 (.loop (zZ (aA Tryz.f125).code)))) _ _ _;rw[eR];refine NL hty (src.length+21) hn h0 h1 hy λfr k1 k2 k3=>?_;show eR E ((src.length+21)+1) _ _ _ _;rw[eR];have:=NK hty h9 hs0 hn0 hsrc hns hbl (src.length) src [] es0 none fr rfl (by simp) rfl k1 k2 k3;rw[hset]at this;refine eK _ this ?_;rintro x fr' σ' ⟨rfl,es2,p2,cur2,g1,g2,g3⟩;simp only[bf];exact⟨by simp,[],rfl,rfl,es2,p2,cur2,g1,g2,g3⟩
end
theorem Qn {E:Env}(he:cB Tryz.prog E)(hfs:fR Tryz.prog E)(hmix:Tryz.prog.follows .mixedOrders=true)(hF:E.fn 125=some (aA Tryz.f125)) {sz by_ sz9 by9:Nat}{zv z9:V}
  (hty:E.ty 109=some { kd:=.map 9 4,size:=sz,bytes:=by_,zero:=zv })(h9:E.ty 9=some { kd:=.str,size:=sz9,bytes:=by9,zero:=z9 }):h_ Tryz.prog E 125 L9:=by
 intro c vs xs v σ' hs hv h;unfold L9 at h;split at h
 case h_2=>cases h
 rename_i b y;split at h
 case h_2=>cases h
 rename_i es0 src hob hent;split at h
 case h_2=>cases h
 rename_i l hok hne hput;injection h with h;injection h with e1 e2;subst e1 e2;simp only[ai]at hok;have ho0:=DR hok.1;have ho1:=DR hok.2;have hlv:live c.Z b:=⟨_,hob,rfl⟩;have hbl:=dX hlv;obtain⟨hs1,hx1⟩:=Cx.Rl hs b;have hob1:(c.aside b).Z[b]?=some (.map es0):=by rw[<- hob];exact yB
 obtain⟨en0,cl0,g1,g2,l0,g3,g4⟩:=hs.obj b _ hob;have hn0:(es0.map ks).Nodup:=g4.keys ho0.strs ((g3.map _).nodup_iff.2 g2.st.2.2);cases hv with | cons _ x _ xs hx hr=>
 cases hr with | cons _ yv _ ys hyv hr=>
 cases hr
 obtain⟨y',hy',hyv',hns⟩:∃y',((∃g,y'=.imp g src)\/(y'=.bX/\src=[]))/\VR (c.aside b) y' yv/\(src.map ks).Nodup:=by
  unfold entriesOf at hent;split at hent
  ·injection hent with hent;subst hent;exact⟨.bX,.inr ⟨rfl,rfl⟩,hyv.mono hx1,by simp⟩
  ·rename_i g es;injection hent with hent;subst hent;obtain⟨blk,en,cl,l1,rfl,hi,hh,hm,hp,hmr⟩:=hyv.tH;exact⟨_,.inl ⟨g,rfl⟩,hyv.mono hx1,hmr.PI.keys ho1.strs ((hp.map _).nodup_iff.2 hm.st.2.2)⟩
  ·rename_i b';split at hent
   ·rename_i es hob';injection hent with hent;subst hent;obtain⟨rfl,hb'⟩:=hyv.xS;obtain⟨en,cl,k1,k2,l1,k3,k4⟩:=hs.obj b' _ hob'
    have hne':b≠b':=by
     simp only[gw]at hne;exact Nat.ne_of_beq_eq_false hne
    refine⟨.imp false es,.inl ⟨false,rfl⟩,.inl (.imp false es _ en cl l1 ⟨jC k1,?_,λ_=>hs.nJ b' ⟨_,hob',rfl⟩⟩ k1 k2 k3 (k4.acr ho1)),k4.keys ho1.strs ((k3.map _).nodup_iff.2 k2.st.2.2)⟩;rintro⟨j,hj,e⟩;obtain⟨rfl,_⟩:=lQ hj;exact hne' (hs.inj _ _ hlv ⟨_,hob',rfl⟩ e)
   ·cases hent
  ·cases hent
 refine qY hfs hF ?_;have hargs:fD (c.aside b) [.mp b,y'] [x,yv]:=.cons _ _ _ _ (hx.mono hx1) (.cons _ _ _ _ hyv' .nil);refine (xB he hfs hmix hF hs1 hargs (IU hty h9 ho0.strs hn0 ho1 hns hob1 hy')).mono ?_;rintro e w' ⟨r,u,σ1,rfl,⟨rfl,es2,p2,cur2,q1,q2,q3⟩,c',rfl,hσ,hx',hs',hr'⟩;subst q3;refine⟨r,rfl,?_⟩;obtain⟨l2,q4,q5,q6,q7⟩:=pR (p:=p2) (λe he=>ho1.strs e (q1.mem_iff.1 he)) ((q1.map ks).nodup_iff.2 hns) ho0.strs hn0;rw[q2]at q4;injection q4 with q4;subst q4
 have ho2:tW es2:=λe he=>by
  rcases (q7 e).1 he with he | ⟨he,_⟩
  ·exact ho1 e (q1.mem_iff.1 he)
  ·exact ho0 e he
 have hperm:es2.Perm l:=HQ q1 (λe he=>ho1.strs e (q1.mem_iff.1 he)) ((q1.map ks).nodup_iff.2 hns) ho0.strs hn0 q2 hput;have hlen1:(c.aside b).Z.length=c.Z.length:=pG _ _
 have hdob:c'.Z[b]?=some (.map es2):=by
  rw[hσ,b8 (by rw[ec,hlen1];exact hbl)];simp[hlen1,hbl]
 obtain⟨en,cl,k1,k2,l3,k3,k4⟩:=hs'.obj b _ hdob
 obtain⟨r1,r2⟩:=SR.restore (o:=.map l) (σ3:=c.Z.set b (.map l)++[.dead]) hs hlv hx' (by rw[hσ];simp[hlen1]) (λj hj hjb=>by
   rw[b8 (by simpa using hj),No (λe=>hjb e.symm)]) (by
   rw[b8 (by simpa using hbl)];simp[hbl]) (λj o hj ho=>by
   rw[br (by simpa using hj)]at ho;rcases Nat.eq_zero_or_pos (j-(c.Z.set b (.map l)).length) with h0 | h0
   ·rw[h0]at ho;simpa using ho.symm
   ·rw[j8 (by simp at h0 ⊢;omega)]at ho;cases ho) (λ_=>by
   obtain⟨l4,m1,m2⟩:=k4.perm hperm;refine⟨en,cl,k1,k2,l4,m1.symm.trans k3,m2.copy λe he=>ho2 e (hperm.mem_iff.2 he)⟩) hs'.iX
 exact⟨{ c' with Z:=c.Z.set b (.map l)++[.dead] },rfl,rfl,r2,r1,by
  obtain⟨ys,rfl,hys⟩:=hr'.F6;cases hys;exact .fM [] [] .nil⟩
end
end Go.Ax
end
section
namespace Go.Ax
open Go
theorem lF {a b:List Nat}:seq a b=true ↔ a=b:=by rw[seq_eq,aa]
theorem kL {a b:List Nat}:seq a b=false ↔ a≠b:=by rw[seq_eq,decide_eq_false_iff_not]
theorem rO {s:List Nat}:∀{l:List (List Nat)},mem s l=true ↔ s∈l
 | []=>by simp[mem]
 |a::r=>by
  simp only[mem];cases h:seq a s with
  |true=>rw[lF]at h;simp[h]
  |false=>rw[kL]at h;simp[rO (l:=r),h.symm]
theorem A9 {m:List (List Nat)}:∀{l:List (List Nat)},FK l m=true ↔ ∃a∈l,a∈m
 | []=>by simp[FK]
 |a::r=>by
  simp only[FK];cases h:mem a m with
  |true=>rw[rO]at h;simp[h]
  |false=>
   have:a ∉ m:=λg=>by rw[<- rO,h]at g;cases g
   simp[A9 (l:=r),this]
def SV (v:V) (l:List (List Nat)):Prop:=(v=.aF/\l=[])\/∃g full,v=.bS g (l.map λs=>[V.str s]) full
def gJ (es:List (V × V)):Prop:=∀e∈es,(∃k,e.1=.str k)/\SV e.2 (iR e.2)
theorem JB:∀{xs:List (List V)},vY xs=true->xs=(nO xs).map λs=>[V.str s]:=by
 intro xs
 fun_induction vY xs with
 |case1=>intro _;rfl
 |case2 s r ih=>intro h;simp only[nO,bh,<- ih h]
 |case3=>intro h;cases h
theorem yA {es:List (V × V)}:oI es=true->gJ es:=by
 fun_induction oI es with
 |case1=>intro _ e he;cases he
 |case2 k g xs f r h ih=>
  intro h' e he;rcases IT.1 he with rfl | he
  ·rw[ai]at h;exact⟨⟨k,rfl⟩,.inr ⟨g,f,by simp only[iR];rw[<- JB h.1]⟩⟩
  ·exact ih h' e he
 |case3=>intro h;cases h
 |case4 k r ih=>
  intro h' e he;rcases IT.1 he with rfl | he
  ·exact⟨⟨k,rfl⟩,.inl ⟨rfl,rfl⟩⟩
  ·exact ih h' e he
 |case5=>intro h;cases h
theorem HL:∀xs:List (List V),(nO xs).length<=xs.length:=by
 intro xs
 fun_induction nO xs with
 |case1 s r ih=>simp only[af];omega
 |case2=>simp
theorem Kz {es:List (V × V)}:oI es=true->∀e∈es,(iR e.2).length<=1000000:=by
 fun_induction oI es with
 |case1=>intro _ e he;cases he
 |case2 k g xs f r h ih=>
  intro h' e he;rcases IT.1 he with rfl | he
  ·rw[ai,Nat.ble_eq]at h;have:=HL xs;simp only[iR];omega
  ·exact ih h' e he
 |case3=>intro h;cases h
 |case4 k r ih=>
  intro h' e he;rcases IT.1 he with rfl | he
  ·simp[iR]
  ·exact ih h' e he
 |case5=>intro h;cases h
theorem gJ.tail {e:V × V}{es:List (V × V)}(h:gJ (e::es)):gJ es:=λx hx=>h x (ae _ hx)
theorem Kk {k:List Nat}{es:List (V × V)}:gQ.hasKey k es=false->jF es->k ∉ es.map ks:=by
 fun_induction gQ.hasKey k es with
 |case1=>intro _ _;simp
 |case2=>intro h;cases h
 |case3 k' v r h ih=>
  intro h' ha;rw[kL]at h;simp only[bh,IT,qm];exact⟨λe=>h (by rw[e];rfl),ih h' λe he=>ha e (ae _ he)⟩
 |case4 x r hx ih=>
  intro h' ha;obtain⟨q,hq⟩:=ha x (IN ..);obtain⟨x1,x2⟩:=x;simp only at hq;subst hq;exact (hx _ _ rfl).elim
theorem Ek {es:List (V × V)}:gQ es=true->jF es->(es.map ks).Nodup:=by
 fun_induction gQ es with
 |case1=>intro _ _;simp
 |case2=>intro h;cases h
 |case3 k v r h ih=>
  intro h' ha;have hr:jF r:=λe he=>ha e (ae _ he);simp only[bh,dn];exact⟨Kk h hr,ih h' hr⟩
 |case4=>intro h;cases h
def valOf (es:List (V × V)) (x:List Nat):V:=
 match es with
 |(.str k,v)::r=>match seq k x with
  |true=>v
  |false=>valOf r x
 |_::r=>valOf r x
 | []=>.aF
theorem yH {x:List Nat}:∀{es:List (V × V)},gJ es->SV (valOf es x) (b_ es x)
 | [],_=>.inl ⟨rfl,rfl⟩
 |(k',v)::es,h=>by
  obtain⟨⟨k,hk⟩,hv⟩:=h _ (IN ..);simp only at hk hv;subst hk;simp only[valOf,b_];cases seq k x with
  |true=>exact hv
  |false=>exact yH h.tail
theorem DF {x:List Nat}:∀{es:List (V × V)},gJ es->∃r,iQ jU (.str x) es=some r/\r.getD .aF=valOf es x
 | [],_=>⟨none,rfl,rfl⟩
 |(k',v)::es,h=>by
  obtain⟨⟨k,hk⟩,hv⟩:=h _ (IN ..);simp only at hk hv;subst hk
  have e:jU (.str x) (.str k)=some (seq k x):=by
   simp only[jU,seq_eq];exact au some (nj.2 ⟨λh=>h.symm,λh=>h.symm⟩)
  simp only[iQ,e,valOf];cases seq k x with
  |true=>exact⟨some v,rfl,rfl⟩
  |false=>exact DF h.tail
theorem xR {es:List (V × V)}(h:gJ es)(hn:(es.map ks).Nodup) {k:List Nat}{v:V}(he:(V.str k,v)∈es):b_ es k=iR v:=by
 induction es with
 |nil=>cases he
 |cons e es ih=>
  obtain⟨k',v'⟩:=e;obtain⟨⟨q,hq⟩,_⟩:=h _ (IN ..);simp only at hq;subst hq;simp only[bh,dn]at hn;simp only[b_];rcases IT.1 he with he | he
  ·injection he with h1 h2;injection h1 with h1;subst h1 h2;rw[show seq k k=true from lF.2 rfl]
  ·have:q≠k:=λe=>hn.1 (by rw[show ks (V.str q,v')=q from rfl,e];exact cv.2 ⟨_,he,rfl⟩);rw[show seq q k=false from kL.2 this];exact ih h.tail hn.2 he
theorem C0 {es:List (V × V)}(h:gJ es) {x nx:List Nat}(hx:nx∈b_ es x):∃v,(V.str x,v)∈es/\nx∈iR v:=by
 induction es with
 |nil=>cases hx
 |cons e es ih=>
  obtain⟨k',v'⟩:=e;obtain⟨⟨q,hq⟩,_⟩:=h _ (IN ..);simp only at hq;subst hq;simp only[b_]at hx;cases hs:seq q x with
  |true=>
   rw[hs]at hx;rw[lF]at hs;subst hs;exact⟨v',IN ..,hx⟩
  |false=>
   rw[hs]at hx;obtain⟨v,h1,h2⟩:=ih h.tail hx;exact⟨v,ae _ h1,h2⟩
inductive Ev (es:List (V × V)) (f:List Nat):Nat->List Nat->Prop
 |zero:Ev es f 0 f
 |succ {k:Nat}{x nx:List Nat}(h:nx∈b_ es x)(hr:Ev es f k nx):Ev es f (k+1) x
theorem Nc {es:List (V × V)}(h:gJ es)(hn:(es.map ks).Nodup) {m:List (List Nat)}{x:List Nat}:x∈w_ m es ↔ ∃nx∈b_ es x,nx∈m:=by
 have key:∀{l:List (V × V)},gJ l->(x∈w_ m l ↔ ∃v,(V.str x,v)∈l/\∃nx∈iR v,nx∈m):=by
  intro l
  induction l with
  |nil=>intro _;simp[w_]
  |cons e l ih=>
   intro h;obtain⟨k',v'⟩:=e;obtain⟨⟨q,hq⟩,_⟩:=h _ (IN ..);simp only at hq;subst hq;simp only[w_];have ih:=ih h.tail;cases ha:FK (iR v') m with
   |true=>
    rw[A9]at ha;simp only[IT,ih];constructor
    ·rintro (rfl | ⟨v,h1,h2⟩)
     ·exact⟨v',.inl rfl,ha⟩
     ·exact⟨v,.inr h1,h2⟩
    ·rintro⟨v,h1 | h1,h2⟩
     ·injection h1 with h1 _;injection h1 with h1;exact .inl h1
     ·exact .inr ⟨v,h1,h2⟩
   |false=>
    have hna:¬ ∃a∈iR v',a∈m:=λg=>by rw[<- A9,ha]at g;cases g
    rw[ih];constructor
    ·rintro⟨v,h1,h2⟩;exact⟨v,ae _ h1,h2⟩
    ·rintro⟨v,h1,h2⟩;rcases IT.1 h1 with h1 | h1
     ·injection h1 with _ h1;subst h1;exact absurd h2 hna
     ·exact⟨v,h1,h2⟩
 rw[key h];constructor
 ·rintro⟨v,h1,nx,h2,h3⟩;exact⟨nx,by rw[xR h hn h1];exact h2,h3⟩
 ·rintro⟨nx,h1,h2⟩;obtain⟨v,h3,h4⟩:=C0 h h1;exact⟨v,h3,nx,h4,h2⟩
theorem xW {es:List (V × V)}:∀(n:Nat) (m:List (List Nat)),(dS es n m).length=n+1/\(dS es n m)[0]?=some m/\∀j l,(dS es n m)[j]?=some l->j<n->(dS es n m)[j+1]?=some (w_ l es)
 |0,m=>⟨rfl,rfl,λj l h hj=>by omega⟩
 |n+1,m=>by
  obtain⟨h1,h2,h3⟩:=xW (es:=es) n (w_ m es);refine⟨by simp[dS,h1],rfl,λj l h hj=>?_⟩;cases j with
  |zero=>
   simp only[dS,bg]at h;injection h with h;subst h;simpa [dS]using h2
  |succ j=>
   simp only[dS,ck]at h ⊢;exact h3 j l h (by omega)
theorem pX {es:List (V × V)}(h:gJ es)(hn:(es.map ks).Nodup) (f:List Nat) (n:Nat):∀(j:Nat) (l:List (List Nat)),(dS es n [f])[j]?=some l->∀x,x∈l ↔ Ev es f j x:=by
 intro j;obtain⟨h1,h2,h3⟩:=xW (es:=es) n [f]
 induction j with
 |zero=>
  intro l hl x;rw[h2]at hl;injection hl with hl;subst hl;simp only[cn];constructor
  ·rintro rfl;exact .zero
  ·intro hr;cases hr;rfl
 |succ j ih=>
  intro l hl x;have hj:j+1<n+1:=by rw[<- h1];exact (AI.1 hl).1
  obtain⟨l0,hl0⟩:∃l0,(dS es n [f])[j]?=some l0:=⟨_,AT (by omega)⟩;rw[h3 j l0 hl0 (by omega)]at hl;injection hl with hl;subst hl;rw[Nc h hn];constructor
  ·rintro⟨nx,g1,g2⟩;exact .succ g1 ((ih l0 hl0 nx).1 g2)
  ·intro hr;cases hr with | succ g1 g2=>exact⟨_,g1,(ih l0 hl0 _).2 g2⟩
theorem vO {s:List Nat}:∀{L:List (List (List Nat))}{k:Nat},fW s L=some k->(∃l,L[k]?=some l/\s∈l)/\∀j l,j<k->L[j]?=some l->s ∉ l
 | [],_,h=>by cases h
 |m::L,k,h=>by
  simp only[fW]at h;cases hm:mem s m with
  |true=>
   rw[hm]at h;injection h with h;subst h;exact⟨⟨m,rfl,rO.1 hm⟩,λj l hj=>by omega⟩
  |false=>
   rw[hm]at h;have hne:s ∉ m:=λg=>by rw[<- rO,hm]at g;cases g
   cases hd:fW s L with
   |none=>rw[hd]at h;cases h
   |some k'=>
    rw[hd]at h;injection h with h;subst h;obtain⟨⟨l,h1,h2⟩,h3⟩:=vO hd;refine⟨⟨l,by simpa using h1,h2⟩,λj l hj hl=>?_⟩;cases j with
    |zero=>simp at hl;subst hl;exact hne
    |succ j=>exact h3 j l (by omega) (by simpa using hl)
theorem BD {s:List Nat}:∀{L:List (List (List Nat))},fW s L=none->∀l∈L,s ∉ l
 | [],_,l,hl=>by cases hl
 |m::L,h,l,hl=>by
  simp only[fW]at h;cases hm:mem s m with
  |true=>rw[hm]at h;cases h
  |false=>
   rw[hm]at h;have hne:s ∉ m:=λg=>by rw[<- rO,hm]at g;cases g
   cases hd:fW s L with
   |some k'=>rw[hd]at h;cases h
   |none=>
    rcases IT.1 hl with rfl | hl
    ·exact hne
    ·exact BD hd l hl
def uE (es:List (V × V)) (f x:List Nat):Option Nat:=fW x (dS es es.length [f])
theorem lO {es:List (V × V)}(h:gJ es)(hn:(es.map ks).Nodup) {f x:List Nat}{k:Nat}:uE es f x=some k ↔ k<=es.length/\Ev es f k x/\∀j,j<k->¬ Ev es f j x:=by
 obtain⟨h1,h2,h3⟩:=xW (es:=es) es.length [f];have get:∀j,j<=es.length->∃l,(dS es es.length [f])[j]?=some l:=λj hj=>⟨_,AT (by omega)⟩;constructor
 ·intro hd;obtain⟨⟨l,g1,g2⟩,g3⟩:=vO hd;have hk:k<es.length+1:=by rw[<- h1];exact (AI.1 g1).1
  refine⟨by omega,(pX h hn f _ k l g1 x).1 g2,λj hj hr=>?_⟩;obtain⟨l',hl'⟩:=get j (by omega);exact g3 j l' hj hl' ((pX h hn f _ j l' hl' x).2 hr)
 ·rintro⟨hk,hr,hmin⟩;obtain⟨l,hl⟩:=get k hk;cases hd:uE es f x with
  |none=>exact absurd ((pX h hn f _ k l hl x).2 hr) (BD hd l (ag hl))
  |some k'=>
   obtain⟨⟨l',g1,g2⟩,g3⟩:=vO hd;have hr':=(pX h hn f _ k' l' g1 x).1 g2;rcases jz k k' with c | c | c
   ·exact absurd ((pX h hn f _ k l hl x).2 hr) (g3 k l c hl)
   ·rw[c]
   ·exact absurd hr' (hmin k' c)
def mX (fe:List (V × V)):Prop:=∀e∈fe,∃(k:List Nat) (n:Nat),e=(.str k,.int .i64 (n:Int))
def bN:List (V × V)->List Nat->Option Nat
 |(.str k,.int _ n)::r,x=>match seq k x with
  |true=>some n.toNat
  |false=>bN r x
 |_::r,x=>bN r x
 | [],_=>none
theorem mX.tail {e:V × V}{es:List (V × V)}(h:mX (e::es)):mX es:=λx hx=>h x (ae _ hx)
theorem mX.strs {fe:List (V × V)}(h:mX fe):jF fe:=λe he=>by obtain⟨k,n,rfl⟩:=h e he;exact⟨k,rfl⟩
theorem vL {x:List Nat}:∀{fe:List (V × V)},mX fe->iQ jU (.str x) fe=some (Option.map (λn:Nat=>V.int .i64 (n:Int)) (bN fe x))
 | [],_=>rfl
 |e::fe,h=>by
  obtain⟨k,n,rfl⟩:=h e (IN ..)
  have e:jU (.str x) (.str k)=some (seq k x):=by
   simp only[jU,seq_eq];exact au some (nj.2 ⟨λh=>h.symm,λh=>h.symm⟩)
  simp only[iQ,e,bN];cases seq k x with
  |true=>rfl
  |false=>exact vL h.tail
theorem Mh {x:List Nat}:∀{fe:List (V × V)},mX fe->((bN fe x).isSome=true ↔ x∈fe.map ks)
 | [],_=>by simp[bN]
 |e::fe,h=>by
  obtain⟨k,n,rfl⟩:=h e (IN ..);simp only[bN,bh,IT];cases hs:seq k x with
  |true=>rw[lF]at hs;simp[hs,ks]
  |false=>
   rw[kL]at hs;simp only;rw[Mh h.tail];simp only[ks];exact⟨.inr,λg=>g.resolve_left λe=>hs e.symm⟩
theorem Cd {x:List Nat}{m:Nat}:∀{fe:List (V × V)},mX fe->∃fe',kN jU (.str x) (.int .i64 (m:Int)) fe=some fe'/\mX fe'/\(∀y,bN fe' y=if y=x then some m else bN fe y) /\
  fe'.map ks=(if x∈fe.map ks then fe.map ks else fe.map ks++[x])
 | [],_=>⟨[(.str x,.int .i64 (m:Int))],rfl,λe he=>by simp at he;subst he;exact⟨x,m,rfl⟩,λy=>by
   simp only[bN];cases hs:seq x y with
   |true=>rw[lF]at hs;simp[hs]
   |false=>rw[kL]at hs;simp[hs.symm],by simp[ks]⟩
 |e::fe,h=>by
  obtain⟨k,n,rfl⟩:=h e (IN ..)
  have e:jU (.str x) (.str k)=some (seq k x):=by
   simp only[jU,seq_eq];exact au some (nj.2 ⟨λh=>h.symm,λh=>h.symm⟩)
  cases hs:seq k x with
  |true=>
   rw[hs]at e;rw[lF]at hs;subst hs;refine⟨(.str k,.int .i64 (m:Int))::fe,by simp only[kN,e],λe he=>?_,λy=>?_,by simp[ks]⟩
   ·rcases IT.1 he with rfl | he
    ·exact⟨k,m,rfl⟩
    ·exact h.tail e he
   ·simp only[bN];cases hs:seq k y with
    |true=>rw[lF]at hs;simp[hs]
    |false=>rw[kL]at hs;simp[hs.symm]
  |false=>
   rw[hs]at e;rw[kL]at hs;obtain⟨fe',h1,h2,h3,h4⟩:=Cd (x:=x) (m:=m) h.tail;refine⟨(.str k,.int .i64 (n:Int))::fe',by simp only[kN,e,h1],λe he=>?_,λy=>?_,?_⟩
   ·rcases IT.1 he with rfl | he
    ·exact⟨k,n,rfl⟩
    ·exact h2 e he
   ·simp only[bN];cases hk:seq k y with
    |true=>rw[lF]at hk;subst hk;simp[hs]
    |false=>simp only[h3]
   ·simp only[bh,h4,ks,IT,hs.symm,false_or];split <;> simp
theorem AK:∀{a b:List (List Nat)},a.Nodup->(∀x∈a,x∈b)->a.length<=b.length
 | [],_,_,_=>by simp
 |x::a,b,hn,hs=>by
  rw[dn]at hn;have hx:x∈b:=hs x (IN ..)
  have:=AK (a:=a) (b:=b.erase x) hn.2 λy hy=>by
   have hne:y≠x:=λe=>hn.1 (by rw[<- e];exact hy);exact (List.mem_erase_of_ne hne).2 (hs y (ae _ hy))
  rw[List.length_erase_of_mem hx]at this;have hb:0<b.length:=List.length_pos_of_mem hx;simp only[af];omega
structure G5 (es:List (V × V)) (f:List Nat) (fe:List (V × V)):Prop where
 ok:mX fe
 zero:bN fe f=some 0
 rch:∀x k,bN fe x=some k->Ev es f k x
 bound:∀x k,bN fe x=some k->k+1<=fe.length
 nodup:(fe.map ks).Nodup
 keys:∀k∈fe.map ks,k∈f::es.map ks
theorem G5.len {es fe:List (V × V)}{f:List Nat}(h:G5 es f fe):fe.length<=es.length+1:=by
 have:=AK h.nodup h.keys;simpa using this
theorem G5.lt {es fe:List (V × V)}{f:List Nat}(h:G5 es f fe) {x:List Nat}{k:Nat}(hx:bN fe x=some k):k<=es.length:=by
 have:=h.bound x k hx;have:=h.len;omega
def MZ (es:List (V × V)) (f:List Nat) (fe:List (V × V)):Nat:=((f::es.map ks).map λx=>(bN fe x).getD (es.length+2)).sum
theorem Oz {g h:List Nat->Nat}:∀{l:List (List Nat)},(∀x,g x<=h x)->(∃x∈l,g x<h x)->(l.map g).sum<(l.map h).sum
 | [],_,⟨_,hx,_⟩=>by cases hx
 |a::l,hle,⟨x,hx,hlt⟩=>by
  have rest:∀l:List (List Nat),(l.map g).sum<=(l.map h).sum:=by
   intro l
   induction l with
   |nil=>simp
   |cons b l ih=>have:=hle b;simp only[bh,List.sum_cons];omega
  simp only[bh,List.sum_cons];rcases IT.1 hx with rfl | hx
  ·have:=rest l;omega
  ·have:=Oz hle ⟨x,hx,hlt⟩;have:=hle a;omega
theorem G5.YL {es fe:List (V × V)}{f name nx:List Nat}(h:G5 es f fe)(hn:nx∈b_ es name)(hk:name∈es.map ks) {d:Nat}(hd:bN fe nx=some d)(hw:∀w,bN fe name=some w->d+1<w)
  {fe':List (V × V)}(hp:kN jU (.str name) (.int .i64 ((d+1:Nat):Int)) fe=some fe'):G5 es f fe'/\MZ es f fe'<MZ es f fe:=by
 obtain⟨fe2,h1,h2,h3,h4⟩:=Cd (x:=name) (m:=d+1) h.ok;rw[hp]at h1;injection h1 with h1;subst h1
 have hnf:name≠f:=λe=>by
  subst e;have:=hw 0 h.zero;omega
 have hb:=h.bound nx d hd
 have hlen:fe'.length=if name∈fe.map ks then fe.length else fe.length+1:=by
  have:=au List.length h4;rw[bj]at this;rw[this];split <;> simp
 have hle:fe.length<=fe'.length:=by rw[hlen];split <;> omega
 refine⟨⟨h2,by rw[h3,an hnf.symm];exact h.zero,λx k hx=>?_,λx k hx=>?_,?_,?_⟩,?_⟩
 ·rw[h3]at hx;split at hx
  ·rename_i e;injection hx with hx;subst hx e;exact .succ hn (h.rch nx d hd)
  ·exact h.rch x k hx
 ·rw[h3]at hx;split at hx
  ·rename_i e;injection hx with hx;subst hx e;rw[hlen];split
   ·rename_i hm;obtain⟨w,hw'⟩:=jn.1 ((Mh h.ok).2 hm);have:=hw w hw';have:=h.bound _ w hw';omega
   ·omega
  ·have:=h.bound x k hx;omega
 ·rw[h4];split
  ·exact h.nodup
  ·rename_i hm;rw[k8];refine⟨h.nodup,by simp,λa ha b hb e=>?_⟩;simp only[cn]at hb;subst hb e;exact hm ha
 ·rw[h4];split
  ·exact h.keys
  ·intro k hk';rcases cq.1 hk' with hk' | hk'
   ·exact h.keys k hk'
   ·simp only[cn]at hk';subst hk';exact ae _ hk
 ·unfold MZ;have hl:=h.len;refine Oz (λx=>?_) ⟨name,ae _ hk,?_⟩
  ·rw[h3];split
   ·rename_i e;subst e;simp only[aq];cases hx:bN fe x with
    |none=>simp only[Option.getD_none];omega
    |some w=>have:=hw w hx;simp only[aq];omega
   ·exact OF _
  ·rw[h3,az rfl];simp only[aq];cases hx:bN fe name with
   |none=>simp only[Option.getD_none];omega
   |some w=>have:=hw w hx;simp only[aq];omega
def wR (fe:List (V × V)) (x nx:List Nat):Prop:=∀d,bN fe nx=some d->∃w,bN fe x=some w/\w<=d+1
theorem G5.dist {es fe:List (V × V)}{f:List Nat}(hb:gJ es)(hn:(es.map ks).Nodup)(h:G5 es f fe)(hc:∀x nx,nx∈b_ es x->wR fe x nx) (x:List Nat):uE es f x=bN fe x:=by
 have reach:∀k x,Ev es f k x->∃w,bN fe x=some w/\w<=k:=by
  intro k x hr
  induction hr with
  |zero=>exact⟨0,h.zero,OF _⟩
  |succ g _ ih=>
   obtain⟨w,h1,h2⟩:=ih;obtain⟨w',h3,h4⟩:=hc _ _ g w h1;exact⟨w',h3,by omega⟩
 cases hx:bN fe x with
 |some w=>
  rw[lO hb hn];refine⟨h.lt hx,h.rch x w hx,λj hj hr=>?_⟩;obtain⟨w',h1,h2⟩:=reach j x hr;rw[hx]at h1;injection h1 with h1;omega
 |none=>
  cases hd:uE es f x with
  |none=>rfl
  |some k=>
   obtain⟨_,hr,_⟩:=(lO hb hn).1 hd;obtain⟨w,h1,_⟩:=reach k x hr;rw[hx]at h1;cases h1
theorem NG {es:List (V × V)}(hb:gJ es)(hn:(es.map ks).Nodup) {f x:List Nat}{k:Nat}(h:uE es f x=some (k+1)):∃nx∈b_ es x,uE es f nx=some k:=by
 obtain⟨h1,h2,h3⟩:=(lO hb hn).1 h;cases h2 with | succ g hr=>
 refine⟨_,g,(lO hb hn).2 ⟨by omega,hr,λj hj hj'=>?_⟩⟩;exact h3 (j+1) (by omega) (.succ g hj')
def eN (d:List Nat->Option Nat) (acc:Option Nat) (a:List Nat):Option Nat:=
 match d a,acc with
 |none,acc=>acc
 |some k,none=>some k
 |some k,some b=>if k<b then some k else some b
def comb:Option Nat->Option Nat->Option Nat
 |none,e=>e
 |some b,none=>some b
 |some b,some e=>if e<b then some e else some b
theorem FC (L:List (List (List Nat))):∀(l:List (List Nat)) (acc:Option Nat),l.foldl (eN λx=>fW x L) acc=comb acc (iV L l)
 | [],acc=>by cases acc <;> rfl
 |a::l,acc=>by
  simp only[jm,FC L l,iV];cases hd:fW a L with
  |none=>simp only[eN,hd]
  |some d=>
   cases hb:iV L l with
   |none=>
    cases acc with
    |none=>simp[eN,hd,comb]
    |some b=>by_cases h:d<b <;> simp[eN,hd,comb,h]
   |some e=>
    cases hbl:Nat.blt e d with
    |true=>
     have h2:e<d:=by rw[<- oo];exact hbl
     cases acc with
     |none=>simp[eN,hd,comb,h2,hbl]
     |some b=>by_cases h1:d<b <;> by_cases h3:e<b <;> simp[eN,hd,comb,h1,h2,h3,hbl] <;> omega
    |false=>
     have h2:¬ e<d:=λh=>by rw[<- oo,hbl]at h;cases h
     cases acc with
     |none=>simp[eN,hd,comb,h2,hbl]
     |some b=>by_cases h1:d<b <;> by_cases h3:e<b <;> simp[eN,hd,comb,h1,h2,h3,hbl] <;> omega
theorem Ad (L:List (List (List Nat))):∀(l:List (List Nat)) (b:Nat),iV L l=some b->∃a∈l,fW a L=some b
 | [],b,h=>by cases h
 |a::l,b,h=>by
  simp only[iV]at h;cases hd:fW a L with
  |none=>
   rw[hd]at h;obtain⟨x,h1,h2⟩:=Ad L l b h;exact⟨x,ae _ h1,h2⟩
  |some d=>
   rw[hd]at h;cases hb:iV L l with
   |none=>rw[hb]at h;injection h with h;subst h;exact⟨a,IN ..,hd⟩
   |some e=>
    rw[hb]at h;simp only at h;split at h
    ·injection h with h;subst h;obtain⟨x,h1,h2⟩:=Ad L l e hb;exact⟨x,ae _ h1,h2⟩
    ·injection h with h;subst h;exact⟨a,IN ..,hd⟩
theorem Bf (L:List (List (List Nat))) (b:Nat):∀(l:List (List Nat)),(∃a∈l,fW a L=some b)->∃(i:Nat) (a:List Nat),l[i]?=some a/\stepOf L b l=some a/\fW a L=some b/\∀j x,j<i->l[j]?=some x->fW x L≠some b
 | [],⟨_,h,_⟩=>by cases h
 |a::l,⟨x,hx,hd⟩=>by
  by_cases ha:fW a L=some b
  ·exact⟨0,a,rfl,by simp only[stepOf,ha,Nat.beq_refl],ha,λj x hj=>by omega⟩
  ·have hx':x∈l:=by
    rcases IT.1 hx with rfl | hx
    ·exact absurd hd ha
    ·exact hx
   obtain⟨i,y,h1,h2,h3,h4⟩:=Bf L b l ⟨x,hx',hd⟩;refine⟨i+1,y,by simpa using h1,?_,h3,λj z hj hz=>?_⟩
   ·simp only[stepOf];cases hda:fW a L with
    |none=>exact h2
    |some d=>
     have hne:d≠b:=λe=>ha (by rw[hda,e]);cases hbq:Nat.beq d b with
     |true=>exact absurd (jf hbq) hne
     |false=>simp only[hbq];exact h2
   ·cases j with
    |zero=>simp at hz;subst hz;exact ha
    |succ j=>exact h4 j z (by omega) (by simpa using hz)
end Go.Ax
end
section
namespace Go.Ax
open Go Go.Proofs
section
def B6:List Nat->Code->Code
 | [],c=>c
 |0::p,.seq a _=>B6 p a
 |1::p,.seq _ b=>B6 p b
 |2::p,.block _ c=>B6 p c
 |2::p,.loop c=>B6 p c
 |_,c=>c
noncomputable def bk (p:List Nat):Code:=B6 p (aA Tryz.f159).code
section
variable {E:Env}
theorem Uk {d:Nat}(h:d<=4000000000000000000):wr .i64 (KN (d:Int) 1)=((d+1:Nat):Int):=by
 rw[G3,Bd];have e:(2:Int) ^ IntKind.i64.bits=18446744073709551616:=by decide
 have e2:(2:Int) ^ (IntKind.i64.bits-1)=9223372036854775808:=by decide
 have e3:IntKind.i64.signed=true:=rfl;unfold IntKind.wrap;simp only[e,e2,e3,jh,aa];split <;> omega
theorem DN (h196:E.ty 209=some { kd:=.map 9 3,size:=1,bytes:=8,zero:=.bX })(h111:E.ty 107=some { kd:=.map 9 24,size:=1,bytes:=8,zero:=.bX })(h44:E.ty 24=some { kd:=.sl 9,size:=1,bytes:=24,zero:=.aF })
  (h9:E.ty 9=some { kd:=.str,size:=1,bytes:=16,zero:=.str [] })(h3:E.ty 3=some { kd:=.int .i64,size:=1,bytes:=8,zero:=.int .i64 0 })(h4:E.ty 4=some { kd:=.bool,size:=1,bytes:=1,zero:=.bool false })
  (n:Nat) (fr:Fr)(hn:fr.n=119) {lv:V}{l:List (List Nat)}(hl:SV lv l) {i:Nat} (g34:fr.get 34=some lv) (g35:fr.get 35=some (.int .i64 (l.length:Int))) (g36:fr.get 36=some (.int .i64 (i:Int))) {name:List Nat} (g7:fr.get 7=some (.str name)) {tb:Bool} (g6:fr.get 6=some (.bool tb)) (g5:fr.get 5=some (.ref 1 0))
  {fe:List (V × V)}(hok:mX fe)(hsm:∀x k,bN fe x=some k->k<=1000000)(hlen:l.length<=4000000000000000000) {its:Sg}{Q:X->Fr->Sg->Prop}
  (q0:i=l.length->∀fr':Fr,fr'.n=119->(∀t,t≠37->fr'.get t=fr.get t)->Q (.exit 4) fr' (.map fe::.cells 209 [.mp 0] true::its))
  (q1:∀nx,l[i]?=some nx->((∀d,bN fe nx=some d->∃w,bN fe name=some w/\w<=d+1)->∀fr':Fr,fr'.n=119->fr'.get 36=some (.int .i64 ((i+1:Nat):Int))->(∀t,t<10\/t=28\/t=34\/t=35->fr'.get t=fr.get t)->Q .normal fr' (.map fe::.cells 209 [.mp 0] true::its)) /\
   ∀d,bN fe nx=some d->(∀w,bN fe name=some w->d+1<w)->∀fe',kN jU (.str name) (.int .i64 ((d+1:Nat):Int)) fe=some fe'->∀fr':Fr,fr'.n=119->fr'.get 36=some (.int .i64 ((i+1:Nat):Int))->fr'.get 6=some (.bool true)->(∀t,t<10/\t≠6\/t=28\/t=34\/t=35->fr'.get t=fr.get t)->Q .normal fr' (.map fe'::.cells 209 [.mp 0] true::its))
  (hi:i<=l.length):eR E (n+20) (bk [1,1,0,1,2,2,1,2,1,1,2,2,1,1,2,1,1,2,2]) fr (.map fe::.cells 209 [.mp 0] true::its) Q:=by
 simp only[bk,B6,aA,Tryz.f159,aq];by_cases hil:i=l.length
 ·have hlt:decide ((i:Int)<(l.length:Int))=false:=AS (by omega);simp only[e_,fO,cV,fA,c_,dH,cR,dU,cA,yielded,aR,ofValue,bF,bf,cT,bL,kY,comp,aS,cU,dR,dW,iH,eV,oL,kA,bZ,cg,gk,Fr.aH,hn,bg,ck,cm,reduceEqDiff,reduceLT,da,ay,h196,h9,h3,loadAt,isAgg,lookup,eF,entriesOf,cC h9,bin,arith,unop,mapUpdate,fB,V.aY,ah,jB,gr,g35,g36,hlt];refine q0 hil _ (by simp only[Fr.aZ,hn]) λt ht=>by simp only[Fr.aH,ht,false_and,ay]
 ·obtain⟨nx,hnx⟩:∃nx,l[i]?=some nx:=⟨_,AT (by omega)⟩;have hlt:decide ((i:Int)<(l.length:Int))=true:=BY (by omega)
  obtain⟨g,full,rfl⟩:∃g full,lv=.bS g (l.map λs=>[V.str s]) full:=by
   rcases hl with⟨_,rfl⟩ | h
   ·simp at hnx
   ·exact h
  have hrow:(l.map λs=>[V.str s])[i]?=some [V.str nx]:=by simp[hnx]
  have hidx:indexAddr E 24 (.bS g (l.map λs=>[V.str s]) full) (.int .i64 (i:Int))=some (.cZ g [.str nx]):=by
   simp only[indexAddr,h44,h9];rw[an (by omega),dz,hrow];simp
  obtain⟨q1a,q1b⟩:=q1 nx hnx;have hadd:wr .i64 (KN (i:Int) 1)=((i+1:Nat):Int):=Uk (by omega);have fnx:=vL (x:=nx) hok;have fnm:=vL (x:=name) hok;cases hd:bN fe nx with
  |none=>
   rw[hd]at fnx;cases hw:bN fe name with
   |none=>
    rw[hw]at fnm;simp only[e_,fO,cV,fA,c_,dH,cR,dU,cA,yielded,aR,ofValue,bF,bf,cT,bL,kY,comp,aS,cU,dR,dW,iH,eV,oL,kA,bZ,cg,gk,Option.map_none,Fr.aH,Fr.aZ,hn,bg,ck,cm,reduceEqDiff,reduceLT,da,ay,reduceCtorEq,h196,h9,h3,loadAt,isAgg,lookup,eF,entriesOf,cC h9,bin,arith,unop,mapUpdate,fB,V.aY,dj,ah,jt,jd,jc,jB,gr,g34,g35,g36,g5,g7,hlt,hidx,fnx,fnm,hadd];refine q1a (λd h=>by rw[hd]at h;cases h) _ ?_ ?_ ?_
    ·simp only[Fr.aZ,hn]
    ·simp only[Fr.aH,Fr.aZ,hn,reduceLT,da,bf]
    ·intro t ht;have:t<10\/t=28\/t=34\/t=35:=ht;simp only[Fr.aH]
     repeat (rw[an (by omega)])
   |some w=>
    rw[hw]at fnm;simp only[e_,fO,cV,fA,c_,dH,cR,dU,cA,yielded,aR,ofValue,bF,bf,cT,bL,kY,comp,aS,cU,dR,dW,iH,eV,oL,kA,bZ,cg,gk,Option.map_none,Fr.aH,Fr.aZ,hn,bg,ck,cm,reduceEqDiff,reduceLT,da,ay,reduceCtorEq,h196,h9,h3,loadAt,isAgg,lookup,eF,entriesOf,cC h9,bin,arith,unop,mapUpdate,fB,V.aY,dj,ah,gz,jt,jd,jc,jB,gr,g34,g35,g36,g5,g7,hlt,hidx,fnx,fnm,hadd];refine q1a (λd h=>by rw[hd]at h;cases h) _ ?_ ?_ ?_
    ·simp only[Fr.aZ,hn]
    ·simp only[Fr.aH,Fr.aZ,hn,reduceLT,da,bf]
    ·intro t ht;simp only[Fr.aH]
     repeat (rw[an (by omega)])
  |some d=>
   rw[hd]at fnx;have hd1:=hsm nx d hd;have hdd:wr .i64 (KN (d:Int) 1)=((d+1:Nat):Int):=Uk (by omega);cases hw:bN fe name with
   |none=>
    rw[hw]at fnm;obtain⟨fe',k1,k2,k3,_⟩:=Cd (x:=name) (m:=d+1) hok;simp only[e_,fO,cV,fA,c_,dH,cR,dU,cA,yielded,aR,ofValue,bF,bf,cT,bL,kY,comp,aS,cU,dR,dW,iH,eV,oL,kA,bZ,cg,gk,Option.map_none,Fr.aH,Fr.aZ,hn,bg,ck,cm,reduceEqDiff,reduceLT,da,ay,reduceCtorEq,h196,h9,h3,loadAt,isAgg,lookup,eF,entriesOf,cC h9,bin,arith,unop,mapUpdate,fB,V.aY,dj,mj,je,ah,gz,jt,jd,l6,jc,jB,gr,g34,g35,g36,g5,g7,hlt,hidx,fnx,fnm,hadd,hdd,k1];refine q1b d hd (λw h=>by rw[hw]at h;cases h) fe' k1 _ ?_ ?_ ?_ ?_
    ·simp only[Fr.aZ,hn]
    ·simp only[Fr.aH,Fr.aZ,hn,reduceLT,da,bf]
    ·simp only[Fr.aH,Fr.aZ,hn,reduceEqDiff,reduceLT,da,bf,ay]
    ·intro t ht;simp only[Fr.aH]
     repeat (rw[an (by omega)])
   |some w=>
    rw[hw]at fnm;by_cases hlt2:d+1<w
    ·obtain⟨fe',k1,k2,k3,_⟩:=Cd (x:=name) (m:=d+1) hok;have hcmp:decide (((d+1:Nat):Int)<(w:Int))=true:=BY (by omega);simp only[e_,fO,cV,fA,c_,dH,cR,dU,cA,yielded,aR,ofValue,bF,bf,cT,bL,kY,comp,aS,cU,dR,dW,iH,eV,oL,kA,bZ,cg,gk,Fr.aH,Fr.aZ,hn,bg,ck,cm,reduceEqDiff,reduceLT,da,ay,h196,h9,h3,loadAt,isAgg,lookup,eF,entriesOf,cC h9,bin,arith,unop,mapUpdate,fB,V.aY,dj,je,ah,gz,l6,jc,jB,gr,g34,g35,g36,g5,g7,hlt,hidx,fnx,fnm,hadd,hdd,k1,hcmp];refine q1b d hd (λw' h=>by rw[hw]at h;injection h with h;omega) fe' k1 _ ?_ ?_ ?_ ?_
     ·simp only[Fr.aZ,hn]
     ·simp only[Fr.aH,Fr.aZ,hn,reduceLT,da,bf]
     ·simp only[Fr.aH,Fr.aZ,hn,reduceEqDiff,reduceLT,da,bf,ay]
     ·intro t ht;simp only[Fr.aH]
      repeat (rw[an (by omega)])
    ·have hcmp:decide (((d+1:Nat):Int)<(w:Int))=false:=AS (by omega);simp only[e_,fO,cV,fA,c_,dH,cR,dU,cA,yielded,aR,ofValue,bF,bf,cT,bL,kY,comp,aS,cU,dR,dW,iH,eV,oL,kA,bZ,cg,gk,Fr.aH,Fr.aZ,hn,bg,ck,cm,reduceEqDiff,reduceLT,da,ay,h196,h9,h3,loadAt,isAgg,lookup,eF,entriesOf,cC h9,bin,arith,unop,mapUpdate,fB,V.aY,dj,ah,gz,jc,jB,gr,g34,g35,g36,g5,g7,hlt,hidx,fnx,fnm,hadd,hdd,hcmp];refine q1a (λd' h=>by rw[hd]at h;injection h with h;exact⟨w,hw,by omega⟩) _ ?_ ?_ ?_
     ·simp only[Fr.aZ,hn]
     ·simp only[Fr.aH,Fr.aZ,hn,reduceLT,da,bf]
     ·intro t ht;simp only[Fr.aH]
      repeat (rw[an (by omega)])
theorem ND (h196:E.ty 209=some { kd:=.map 9 3,size:=1,bytes:=8,zero:=.bX })(h111:E.ty 107=some { kd:=.map 9 24,size:=1,bytes:=8,zero:=.bX })(h44:E.ty 24=some { kd:=.sl 9,size:=1,bytes:=24,zero:=.aF })
  (h9:E.ty 9=some { kd:=.str,size:=1,bytes:=16,zero:=.str [] })(h3:E.ty 3=some { kd:=.int .i64,size:=1,bytes:=8,zero:=.int .i64 0 })(h4:E.ty 4=some { kd:=.bool,size:=1,bytes:=1,zero:=.bool false })
  {es:List (V × V)}{f:List Nat}(hes:es.length<=1000000)(hbk:gJ es)(hnd:(es.map ks).Nodup) {name:List Nat}{lv:V}(hmem:(V.str name,lv)∈es) {l:List (List Nat)}(hlv:SV lv l)(hln:b_ es name=l)(hlen:l.length<=4000000000000000000) {its:Sg}{fe0:List (V × V)}{tb0:Bool} (N:Nat) :
  ∀(m i:Nat) (fr:Fr) (fe:List (V × V)) (tb:Bool),m+i=l.length->G5 es f fe->fr.n=119->fr.get 34=some lv->fr.get 35=some (.int .i64 (l.length:Int))->fr.get 36=some (.int .i64 (i:Int))->fr.get 7=some (.str name)->fr.get 6=some (.bool tb)->fr.get 5=some (.ref 1 0) ->
   ((tb=tb0/\fe=fe0/\∀j nx,j<i->l[j]?=some nx->wR fe0 name nx)\/(tb=true/\MZ es f fe<MZ es f fe0)) ->
   eR E (N+m+21) (.loop (bk [1,1,0,1,2,2,1,2,1,1,2,2,1,1,2,1,1,2,2])) fr (.map fe::.cells 209 [.mp 0] true::its) λx fr' σ'=>x=.exit 4/\∃fe' tb',G5 es f fe'/\σ'=.map fe'::.cells 209 [.mp 0] true::its/\fr'.n=119/\fr'.get 6=some (.bool tb')/\(∀t,t<10/\t≠6\/t=28->fr'.get t=fr.get t) /\
    ((tb'=tb0/\fe'=fe0/\∀nx∈l,wR fe0 name nx)\/(tb'=true/\MZ es f fe'<MZ es f fe0)):=by
 intro m
 induction m with
 |zero=>
  intro i fr fe tb hi hF hn g34 g35 g36 g7 g6 g5 hacc;show eR E ((N+20)+1) _ _ _ _;rw[eR];refine DN h196 h111 h44 h9 h3 h4 N fr hn hlv g34 g35 g36 g7 g6 g5 hF.ok (λx k hx=>by have:=hF.lt hx;omega) hlen ?_ (λnx hnx=>?_) (by omega)
  ·intro _ fr' k1 k2;refine⟨rfl,fe,tb,hF,rfl,k1,by rw[k2 6 (by omega)];exact g6,λt ht=>k2 t (by omega),?_⟩;rcases hacc with⟨a1,a2,a3⟩ | h
   ·refine .inl ⟨a1,a2,λnx hnx=>?_⟩;obtain⟨j,hj⟩:=List.getElem?_of_mem hnx;exact a3 j nx (by have:=(AI.1 hj).1;omega) hj
   ·exact .inr h
  ·have:=(AI.1 hnx).1;omega
 |succ m ih=>
  intro i fr fe tb hi hF hn g34 g35 g36 g7 g6 g5 hacc;show eR E ((N+m+1+20)+1) _ _ _ _;rw[eR];refine DN h196 h111 h44 h9 h3 h4 (N+m+1) fr hn hlv g34 g35 g36 g7 g6 g5 hF.ok (λx k hx=>by have:=hF.lt hx;omega) hlen (λh=>by omega) (λnx hnx=>⟨?_,?_⟩) (by omega)
  ·intro hc fr' k1 k2 k3
   have:=ih (i+1) fr' fe tb (by omega) hF k1 (by rw[k3 34 (by omega)];exact g34) (by rw[k3 35 (by omega)];exact g35) k2 (by rw[k3 7 (by omega)];exact g7) (by rw[k3 6 (by omega)];exact g6) (by rw[k3 5 (by omega)];exact g5) (by
    rcases hacc with⟨a1,a2,a3⟩ | h
    ·refine .inl ⟨a1,a2,λj nx' hj hnx'=>?_⟩;by_cases e:j=i
     ·subst e;rw[hnx]at hnx';injection hnx' with hnx';subst hnx';intro d hd;rw[<- a2]at hd ⊢;exact hc d hd
     ·exact a3 j nx' (by omega) hnx'
    ·exact .inr h)
   refine eK _ this ?_;rintro x fr2 σ2 ⟨rfl,fe',tb',b1,b2,b3,b4,b5,b6⟩;exact⟨rfl,fe',tb',b1,b2,b3,b4,λt ht=>(b5 t ht).trans (k3 t (by omega)),b6⟩
  ·intro d hd hw fe' hp fr' k1 k2 k3 k4;have hnx':nx∈b_ es name:=by rw[hln];exact ag hnx
   obtain⟨c1,c2⟩:=hF.YL hnx' (cv.2 ⟨_,hmem,rfl⟩) hd hw hp
   have:=ih (i+1) fr' fe' true (by omega) c1 k1 (by rw[k4 34 (by omega)];exact g34) (by rw[k4 35 (by omega)];exact g35) k2 (by rw[k4 7 (by omega)];exact g7) k3 (by rw[k4 5 (by omega)];exact g5) (by
    refine .inr ⟨rfl,?_⟩;rcases hacc with⟨_,a2,_⟩ | ⟨_,h⟩
    ·rw[<- a2];exact c2
    ·omega)
   refine eK _ this ?_;rintro x fr2 σ2 ⟨rfl,fe2,tb',b1,b2,b3,b4,b5,b6⟩;exact⟨rfl,fe2,tb',b1,b2,b3,b4,λt ht=>(b5 t ht).trans (k4 t (by omega)),b6⟩
theorem BA (h196:E.ty 209=some { kd:=.map 9 3,size:=1,bytes:=8,zero:=.bX })(h111:E.ty 107=some { kd:=.map 9 24,size:=1,bytes:=8,zero:=.bX })(h44:E.ty 24=some { kd:=.sl 9,size:=1,bytes:=24,zero:=.aF })
  (h9:E.ty 9=some { kd:=.str,size:=1,bytes:=16,zero:=.str [] })(h3:E.ty 3=some { kd:=.int .i64,size:=1,bytes:=8,zero:=.int .i64 0 })(h4:E.ty 4=some { kd:=.bool,size:=1,bytes:=1,zero:=.bool false })
  (n:Nat) (fr:Fr)(hn:fr.n=119) {k:Nat} (g28:fr.get 28=some (.ref (k+2) 0)) {a b:O}{its:Sg}{left:List (V × V)}{cur:Option (V × V)}(hk:its[k]?=some (.s_ left cur)) {Q:X->Fr->Sg->Prop}(hleft:∀e∈left,(∃s,e.1=.str s)/\∃l,SV e.2 l)
  (q0:left=[]->∀fr':Fr,fr'.n=119->(∀t,t<29->fr'.get t=fr.get t)->Q (.exit 2) fr' (a::b::its))
  (q1:∀p e z name l,left=p++e::z->e.1=.str name->SV e.2 l->∀fr':Fr,fr'.n=119->fr'.get 34=some e.2->fr'.get 35=some (.int .i64 (l.length:Int))->fr'.get 36=some (.int .i64 ((0:Nat):Int))->fr'.get 7=some (.str name)->(∀t,t<7\/t=28->fr'.get t=fr.get t) ->
   eR E (n+20) (.block 4 (.loop (bk [1,1,0,1,2,2,1,2,1,1,2,2,1,1,2,1,1,2,2]))) fr' (a::b::its.set k (.s_ (p++z) (some e))) λx fr Z=>match x with
    | .exit id=>if id=3 then Q .normal fr Z else Q (.exit id) fr Z
    |x=>Q x fr Z) :
  eR E (n+25) (bk [1,1,0,1,2,2,1,2,1,1,2,2]) fr (a::b::its) Q:=by
 have hkl:=(AI.1 hk).1;have hk2:(a::b::its)[k+2]?=some (.s_ left cur):=by simpa using hk
 have hset:∀o,(a::b::its).set (k+2) o=a::b::its.set k o:=λo=>rfl;have hget:∀o,(a::b::its.set k o)[k+2]?=some o:=λo=>by simp[hkl]
 have e1:bk [1,1,0,1,2,2,1,2,1,1,2,2]=.seq (bk ([1,1,0,1,2,2,1,2,1,1,2,2]++[0])) (.seq (bk ([1,1,0,1,2,2,1,2,1,1,2,2]++[1,0])) (.block 3 (.seq (bk ([1,1,0,1,2,2,1,2,1,1,2,2]++[1,1,2,0])) (.seq (bk ([1,1,0,1,2,2,1,2,1,1,2,2]++[1,1,2,1,0])) (.block 4 (.loop (bk [1,1,0,1,2,2,1,2,1,1,2,2,1,1,2,1,1,2,2]))))))):=rfl;rw[e1];generalize hB:Code.block 3 _=B3;simp only[bk,B6,eu,cz,aA,Tryz.f159,aq];simp only[e_,fO,cV,fA,dH,cR,dU,cA,E2,aR,g28,hk2,bf,true_and,cT,bL,kY,comp,cU,cg,Fr.aH,Fr.aZ,hn,bg,reduceEqDiff,reduceLT,da,ay,hset];refine⟨?_,?_⟩
 ·intro hl;refine q0 hl _ (by simp only[Fr.aZ,hn]) λt ht=>?_;simp only[Fr.aH]
  repeat (rw[an (by omega)])
 ·intro p e z hl;obtain⟨⟨name,hname⟩,l,hsv⟩:=hleft e (by rw[hl];simp)
  have hln:lenOf E (a::b::its.set k (.s_ (p++z) (some e))) 24 e.2=some l.length:=by
   rcases hsv with⟨h1,h2⟩ | ⟨g,full,h1⟩
   ·rw[h1,h2];simp only[lenOf,h44,b9]
   ·rw[h1];simp only[lenOf,h44,bj]
  rw[<- hB];clear hB;generalize hrest:Code.block 4 (.loop (bk [1,1,0,1,2,2,1,2,1,1,2,2,1,1,2,1,1,2,2]))=rest at q1 ⊢;simp only[bk,B6,eu,cz,aA,Tryz.f159,aq];simp only[cV,c_,dH,cR,dU,cA,aR,eH,ofValue,bF,bf,cT,bL,kY,comp,aS,cU,AH,eL,builtin,cg,Fr.aH,Fr.aZ,hn,bg,ck,cm,reduceEqDiff,reduceLT,da,ay,h44,h9,gz,V.cells,setCells,g28,AH,hget,hln];refine q1 p e z name l hl hname hsv _ ?_ ?_ ?_ ?_ ?_ ?_
  ·simp only[Fr.aZ,hn]
  ·simp only[Fr.aH,Fr.aZ,hn,reduceEqDiff,reduceLT,da,bf,ay]
  ·simp only[Fr.aH,Fr.aZ,hn,reduceEqDiff,reduceLT,da,bf,ay]
  ·simp only[Fr.aH,Fr.aZ,hn,reduceEqDiff,reduceLT,da,bf,ay];rfl
  ·simp only[Fr.aH,Fr.aZ,hn,reduceEqDiff,reduceLT,da,bf,ay,hname]
  ·intro t ht;simp only[Fr.aH]
   repeat (rw[an (by omega)])
theorem GL (h196:E.ty 209=some { kd:=.map 9 3,size:=1,bytes:=8,zero:=.bX })(h111:E.ty 107=some { kd:=.map 9 24,size:=1,bytes:=8,zero:=.bX })(h44:E.ty 24=some { kd:=.sl 9,size:=1,bytes:=24,zero:=.aF })
  (h9:E.ty 9=some { kd:=.str,size:=1,bytes:=16,zero:=.str [] })(h3:E.ty 3=some { kd:=.int .i64,size:=1,bytes:=8,zero:=.int .i64 0 })(h4:E.ty 4=some { kd:=.bool,size:=1,bytes:=1,zero:=.bool false })
  {es:List (V × V)}{f:List Nat}(hes:es.length<=1000000)(hbk:gJ es)(hnd:(es.map ks).Nodup) {K:Nat}(hK:K<=4000000000000000000)(hKl:∀e∈es,(iR e.2).length<=K) {k:Nat}{fe0:List (V × V)} (N:Nat) :
  ∀(m:Nat) (left p:List (V × V)) (cur:Option (V × V)) (its:Sg) (fr:Fr) (fe:List (V × V)) (tb:Bool),left.length=m->(p++left).Perm es->its[k]?=some (.s_ left cur)->G5 es f fe->fr.n=119->fr.get 28=some (.ref (k+2) 0)->fr.get 6=some (.bool tb)->fr.get 5=some (.ref 1 0) ->
   ((tb=false/\fe=fe0/\∀e∈p,∀name,e.1=.str name->∀nx∈iR e.2,wR fe0 name nx)\/(tb=true/\MZ es f fe<MZ es f fe0)) ->
   eR E (N+K+m+50) (.loop (bk [1,1,0,1,2,2,1,2,1,1,2,2])) fr (.map fe::.cells 209 [.mp 0] true::its) λx fr' σ'=>x=.exit 2/\∃fe' tb' its',G5 es f fe'/\its'.length=its.length/\σ'=.map fe'::.cells 209 [.mp 0] true::its'/\fr'.n=119/\fr'.get 6=some (.bool tb')/\(∀t,t<6->fr'.get t=fr.get t) /\
    ((tb'=false/\fe'=fe0/\∀e∈es,∀name,e.1=.str name->∀nx∈iR e.2,wR fe0 name nx)\/(tb'=true/\MZ es f fe'<MZ es f fe0)):=by
 intro m
 induction m with
 |zero=>
  intro left p cur its fr fe tb hl hp hk hF hn g28 g6 g5 hacc;have:left=[]:=ik.1 hl;subst this;show eR E ((N+K+24)+25+1) _ _ _ _;rw[nW];refine BA h196 h111 h44 h9 h3 h4 (N+K+24) fr hn g28 hk (λe he=>by cases he) (λ_ fr' k1 k2=>?_) (λp e z name l h=>by simp at h);refine⟨rfl,fe,tb,its,hF,rfl,rfl,k1,by rw[k2 6 (by omega)];exact g6,λt ht=>k2 t (by omega),?_⟩;rcases hacc with⟨a1,a2,a3⟩ | h
  ·exact .inl ⟨a1,a2,λe he=>a3 e (by have:=hp.mem_iff.2 he;simpa using this)⟩
  ·exact .inr h
 |succ m ih=>
  intro left p cur its fr fe tb hl hp hk hF hn g28 g6 g5 hacc;show eR E ((N+K+m+25)+25+1) _ _ _ _;rw[nW];have hmem:∀e∈left,e∈es:=λe he=>hp.mem_iff.1 (k9 _ he);have hkl:=(AI.1 hk).1;refine BA h196 h111 h44 h9 h3 h4 (N+K+m+25) fr hn g28 hk (λe he=>⟨(hbk e (hmem e he)).1,_,(hbk e (hmem e he)).2⟩) (λh=>by rw[h]at hl;simp at hl) ?_;intro pa e z name l hz hname hsv fr' k1 k2 k3 k4 k5 k6;have hee:e∈es:=hmem e (by rw[hz];simp);have hme:(V.str name,e.2)∈es:=by rw[<- hname];exact hee
  have hlist:iR e.2=l:=by
   rcases hsv with⟨h1,h2⟩ | ⟨g,full,h1⟩
   ·rw[h1,h2];rfl
   ·rw[h1]
    have:∀l:List (List Nat),nO (l.map λs=>[V.str s])=l:=λl=>by
     induction l with
     |nil=>rfl
     |cons a l ih=>simp[nO,ih]
    exact this l
  have hnext:b_ es name=l:=by rw[xR hbk hnd hme,hlist]
  have hlK:l.length<=K:=by rw[<- hlist];exact hKl e hee
  show eR E ((N+K+m+44)+1) _ _ _ _;rw[c_];obtain⟨N',hN'⟩:∃N',N+K+m+44=N'+l.length+21:=⟨N+K+m+23-l.length,by omega⟩;rw[hN'];have hloop:=ND (tb0:=tb) (fe0:=fe) h196 h111 h44 h9 h3 h4 hes hbk hnd hme hsv hnext (by omega) (its:=its.set k (.s_ (pa++z) (some e))) N' l.length 0 fr' fe tb (by omega) hF k1 k2 k3 k4 k5 (by rw[k6 6 (by omega)];exact g6) (by rw[k6 5 (by omega)];exact g5) (.inl ⟨rfl,rfl,λj nx hj=>by omega⟩);refine eK _ hloop ?_;rintro x fr2 σ2 ⟨rfl,fe',tb',b1,b2,b3,b4,b5,b6⟩;subst b2;simp only[reduceEqDiff,bf,ay]
  have hp2:((p++[e])++(pa++z)).Perm es:=by
   refine List.Perm.trans ?_ hp;rw[hz,cw];exact qd p (by simpa using (jw (l₁:=pa) (a:=e) (l₂:=z)).symm)
  have:=ih (pa++z) (p++[e]) (some e) (its.set k (.s_ (pa++z) (some e))) fr2 fe' tb' (by rw[hz]at hl;simp at hl ⊢;omega) hp2 (by simp[hkl]) b1 b3 (by rw[b5 28 (by omega),k6 28 (by omega)];exact g28) b4 (by rw[b5 5 (by omega),k6 5 (by omega)];exact g5) (by
   rcases b6 with⟨c1,c2,c3⟩ | ⟨c1,c2⟩
   ·rcases hacc with⟨a1,a2,a3⟩ | ⟨a1,a2⟩
    ·refine .inl ⟨by rw[c1,a1],by rw[c2,a2],λe' he' name' hn' nx hnx=>?_⟩;rcases cq.1 he' with he' | he'
     ·exact a3 e' he' name' hn' nx hnx
     ·simp only[cn]at he';subst he';rw[hname]at hn';injection hn' with hn';subst hn';rw[<- a2];exact c3 nx (by rw[<- hlist];exact hnx)
    ·exact .inr ⟨by rw[c1,a1],by rw[c2];exact a2⟩
   ·refine .inr ⟨c1,?_⟩;rcases hacc with⟨_,a2,_⟩ | ⟨_,a2⟩
    ·rw[<- a2];exact c2
    ·omega)
  refine eK _ this ?_;rintro x fr3 σ3 ⟨rfl,fe2,tb2,its2,d1,d2,d3,d4,d5,d6,d7⟩;exact⟨rfl,fe2,tb2,its2,d1,by rw[d2];simp,d3,d4,d5,λt ht=>(d6 t ht).trans ((b5 t (by omega)).trans (k6 t (by omega))),d7⟩
def wS (es:List (V × V)) (fe:List (V × V)):Prop:=∀e∈es,∀name,e.1=.str name->∀nx∈iR e.2,wR fe name nx
theorem Bo (h196:E.ty 209=some { kd:=.map 9 3,size:=1,bytes:=8,zero:=.bX })(h111:E.ty 107=some { kd:=.map 9 24,size:=1,bytes:=8,zero:=.bX })(h44:E.ty 24=some { kd:=.sl 9,size:=1,bytes:=24,zero:=.aF })
  (h9:E.ty 9=some { kd:=.str,size:=1,bytes:=16,zero:=.str [] })(h3:E.ty 3=some { kd:=.int .i64,size:=1,bytes:=8,zero:=.int .i64 0 })(h4:E.ty 4=some { kd:=.bool,size:=1,bytes:=1,zero:=.bool false })
  {es:List (V × V)}{g:Bool} (n:Nat) {its:Sg}{a b:O}{fr:Fr}{tb:Bool}(hn:fr.n=119) (g0:fr.get 0=some (.imp g es)) (g6:fr.get 6=some (.bool tb)) {Q:X->Fr->Sg->Prop}
  (q0:tb=false->∀fr':Fr,fr'.n=119->(∀t,t<26->fr'.get t=fr.get t)->Q (.exit 0) fr' (a::b::its))
  (q1:tb=true->∀fr':Fr,fr'.n=119->fr'.get 28=some (.ref (its.length+2) 0)->fr'.get 6=some (.bool false)->(∀t,t<6->fr'.get t=fr.get t) ->
   eR E (n+20) (.block 2 (.loop (bk [1,1,0,1,2,2,1,2,1,1,2,2]))) fr' (a::b::(its++[.s_ es none])) λx fr Z=>match x with
    | .exit id=>if id=1 then Q .normal fr Z else Q (.exit id) fr Z
    |x=>Q x fr Z) :
  eR E (n+24) (bk [1,1,0,1,2,2]) fr (a::b::its) Q:=by
 have e1:bk [1,1,0,1,2,2]=.seq (bk ([1,1,0,1,2,2]++[0])) (.block 1 (.seq (bk ([1,1,0,1,2,2]++[1,2,0])) (.seq (bk ([1,1,0,1,2,2]++[1,2,1,0])) (.block 2 (.loop (bk [1,1,0,1,2,2,1,2,1,1,2,2])))))):=rfl;rw[e1];generalize hB:Code.block 2 (.loop (bk [1,1,0,1,2,2,1,2,1,1,2,2]))=B2 at q1 ⊢;simp only[bk,B6,eu,cz,aA,Tryz.f159,aq];cases tb with
 |false=>
  simp only[e_,fO,cV,fA,c_,dH,cR,dU,cA,aR,ofValue,bF,bf,cT,bL,kY,comp,aS,pU,cg,Fr.aH,hn,reduceLT,da,reduceCtorEq,h111,g6];refine q0 rfl _ (by simp only[Fr.aZ,hn]) λt ht=>?_;simp only[Fr.aH]
  repeat (rw[an (by omega)])
 |true=>
  simp only[e_,fO,cV,fA,c_,dH,cR,dU,cA,aR,ofValue,bF,bf,cT,bL,kY,comp,aS,pU,cg,Fr.aH,Fr.aZ,hn,reduceEqDiff,reduceLT,da,ay,reduceCtorEq,h111,af,g6,g0];refine q1 rfl _ ?_ ?_ ?_ ?_
  ·simp only[Fr.aZ,hn]
  ·simp only[Fr.aH,Fr.aZ,hn,reduceEqDiff,reduceLT,da,bf,ay]
  ·simp only[Fr.aH,Fr.aZ,hn,reduceEqDiff,reduceLT,da,bf,ay]
  ·intro t ht;simp only[Fr.aH]
   repeat (rw[an (by omega)])
theorem J4 (h196:E.ty 209=some { kd:=.map 9 3,size:=1,bytes:=8,zero:=.bX })(h111:E.ty 107=some { kd:=.map 9 24,size:=1,bytes:=8,zero:=.bX })(h44:E.ty 24=some { kd:=.sl 9,size:=1,bytes:=24,zero:=.aF })
  (h9:E.ty 9=some { kd:=.str,size:=1,bytes:=16,zero:=.str [] })(h3:E.ty 3=some { kd:=.int .i64,size:=1,bytes:=8,zero:=.int .i64 0 })(h4:E.ty 4=some { kd:=.bool,size:=1,bytes:=1,zero:=.bool false })
  {es:List (V × V)}{f:List Nat}(hes:es.length<=1000000)(hbk:gJ es)(hnd:(es.map ks).Nodup) {K:Nat}(hK:K<=4000000000000000000)(hKl:∀e∈es,(iR e.2).length<=K) {g:Bool} (N:Nat) :
  ∀(m:Nat) (its:Sg) (fr:Fr) (fe:List (V × V)) (tb:Bool),(tb=true->MZ es f fe<m)->(tb=false->wS es fe)->G5 es f fe->fr.n=119->fr.get 0=some (.imp g es)->fr.get 6=some (.bool tb)->fr.get 5=some (.ref 1 0) ->
   eR E (N+K+es.length+m+90) (.loop (bk [1,1,0,1,2,2])) fr (.map fe::.cells 209 [.mp 0] true::its) λx fr' σ'=>x=.exit 0/\∃fe' its',G5 es f fe'/\wS es fe'/\σ'=.map fe'::.cells 209 [.mp 0] true::its'/\fr'.n=119/\(∀t,t<6->fr'.get t=fr.get t):=by
 have stop:∀(n:Nat) (its:Sg) (fr:Fr) (fe:List (V × V)),wS es fe->G5 es f fe->fr.n=119->fr.get 0=some (.imp g es)->fr.get 6=some (.bool false) ->
   eR E (n+25) (.loop (bk [1,1,0,1,2,2])) fr (.map fe::.cells 209 [.mp 0] true::its) λx fr' σ'=>x=.exit 0/\∃fe' its',G5 es f fe'/\wS es fe'/\σ'=.map fe'::.cells 209 [.mp 0] true::its'/\fr'.n=119/\(∀t,t<6->fr'.get t=fr.get t):=by
  intro n its fr fe hc hF hn g0 g6;show eR E ((n+24)+1) _ _ _ _;rw[nW];refine Bo h196 h111 h44 h9 h3 h4 n hn g0 g6 (λ_ fr' k1 k2=>?_) (λh=>by cases h);exact⟨rfl,fe,its,hF,hc,rfl,k1,λt ht=>k2 t (by omega)⟩
 intro m
 induction m with
 |zero=>
  intro its fr fe tb hp hc hF hn g0 g6 g5;cases tb with
  |false=>exact stop (N+K+es.length+65) its fr fe (hc rfl) hF hn g0 g6
  |true=>exact absurd (hp rfl) (Nat.not_lt_zero _)
 |succ m ih=>
  intro its fr fe tb hp hc hF hn g0 g6 g5;cases tb with
  |false=>exact stop (N+K+es.length+m+66) its fr fe (hc rfl) hF hn g0 g6
  |true=>
   show eR E ((N+K+es.length+m+66+24)+1) _ _ _ _;rw[nW];refine Bo h196 h111 h44 h9 h3 h4 (N+K+es.length+m+66) hn g0 g6 (λh=>by cases h) (λ_ fr' k1 k2 k3 k4=>?_);show eR E ((N+K+es.length+m+85)+1) _ _ _ _;rw[c_];obtain⟨N',hN'⟩:∃N',N+K+es.length+m+85=N'+K+es.length+50:=⟨N+m+35,by omega⟩;rw[hN'];have:=GL (fe0:=fe) h196 h111 h44 h9 h3 h4 hes hbk hnd hK hKl (k:=its.length) N' es.length es [] none (its++[.s_ es none]) fr' fe false rfl (by simp) (by simp) hF k1 k2 k3 (by rw[k4 5 (by omega)];exact g5) (.inl ⟨rfl,rfl,λe he=>by cases he⟩);refine eK _ this ?_;rintro x fr2 σ2 ⟨rfl,fe',tb',its',b1,b2,b3,b4,b5,b6,b7⟩;subst b3;simp only[reduceEqDiff,bf,ay];have g0':fr2.get 0=some (.imp g es):=by rw[b6 0 (by omega),k4 0 (by omega)];exact g0
   rcases b7 with⟨rfl,rfl,c3⟩ | ⟨rfl,c2⟩
   ·have:=stop (N+K+es.length+m+65) its' fr2 fe' c3 b1 b4 g0' b5;refine eK _ this ?_;rintro x fr3 σ3 ⟨rfl,fe2,its2,d1,d2,d3,d4,d5⟩;exact⟨rfl,fe2,its2,d1,d2,d3,d4,λt ht=>(d5 t ht).trans ((b6 t ht).trans (k4 t ht))⟩
   ·have:=ih its' fr2 fe' true (λ_=>by have:=hp rfl;omega) (λh=>by cases h) b1 b4 g0' b5 (by rw[b6 5 (by omega),k4 5 (by omega)];exact g5);refine eK _ this ?_;rintro x fr3 σ3 ⟨rfl,fe2,its2,d1,d2,d3,d4,d5⟩;exact⟨rfl,fe2,its2,d1,d2,d3,d4,λt ht=>(d5 t ht).trans ((b6 t ht).trans (k4 t ht))⟩
end
end
section
section
variable {E:Env}
def tP:Option Nat->Int
 |none=>-1
 |some b=>(b:Int)
theorem DZ (h196:E.ty 209=some { kd:=.map 9 3,size:=1,bytes:=8,zero:=.bX })(h111:E.ty 107=some { kd:=.map 9 24,size:=1,bytes:=8,zero:=.bX })(h44:E.ty 24=some { kd:=.sl 9,size:=1,bytes:=24,zero:=.aF })
  (h9:E.ty 9=some { kd:=.str,size:=1,bytes:=16,zero:=.str [] })(h3:E.ty 3=some { kd:=.int .i64,size:=1,bytes:=8,zero:=.int .i64 0 })(h4:E.ty 4=some { kd:=.bool,size:=1,bytes:=1,zero:=.bool false })
  (n:Nat) (fr:Fr)(hn:fr.n=119) {lv:V}{l:List (List Nat)}(hl:SV lv l) {i B:Nat} (g70:fr.get 70=some lv) (g71:fr.get 71=some (.int .i64 (l.length:Int))) (g72:fr.get 72=some (.int .i64 (i:Int))) (g5:fr.get 5=some (.ref 1 0)) (g15:fr.get 15=some (.ref B 0))
  {fe:List (V × V)}(hok:mX fe)(hlen:l.length<=4000000000000000000) {Z:Sg}{acc:Option Nat} (s0:Z[0]?=some (.map fe)) (s1:Z[1]?=some (.cells 209 [.mp 0] true)) (sB:Z[B]?=some (.cells 3 [.int .i64 (tP acc)] true)) {Q:X->Fr->Sg->Prop}
  (q0:i=l.length->∀fr':Fr,fr'.n=119->(∀t,t≠73->fr'.get t=fr.get t)->Q (.exit 6) fr' Z)
  (q1:∀nx,l[i]?=some nx->∀σ',((σ'=Z/\eN (bN fe) acc nx=acc)\/σ'=Z.set B (.cells 3 [.int .i64 (tP (eN (bN fe) acc nx))] true))->∀fr':Fr,fr'.n=119->fr'.get 72=some (.int .i64 ((i+1:Nat):Int))->(∀t,t<17\/t=70\/t=71->fr'.get t=fr.get t)->Q .normal fr' σ')
  (hi:i<=l.length):eR E (n+20) (bk [1,1,1,1,0,1,2,2]) fr Z Q:=by
 simp only[bk,B6,aA,Tryz.f159,aq];by_cases hil:i=l.length
 ·have hlt:decide ((i:Int)<(l.length:Int))=false:=AS (by omega);simp only[e_,fO,cV,fA,c_,dH,cR,dU,cA,yielded,aR,ofValue,bF,bf,cT,bL,kY,comp,cU,dW,iH,j_,eV,kA,bZ,gk,Fr.aH,hn,bg,ck,cm,reduceLT,da,ay,h196,h9,h3,loadAt,storeAt,isAgg,lookup,eF,entriesOf,cC h9,bin,arith,ah,V.cells,setCells,jB,gr,g71,g72,hlt];refine q0 hil _ (by simp only[Fr.aZ,hn]) λt ht=>by simp only[Fr.aH,ht,false_and,ay]
 ·obtain⟨nx,hnx⟩:∃nx,l[i]?=some nx:=⟨_,AT (by omega)⟩;have hlt:decide ((i:Int)<(l.length:Int))=true:=BY (by omega)
  obtain⟨g,full,rfl⟩:∃g full,lv=.bS g (l.map λs=>[V.str s]) full:=by
   rcases hl with⟨_,rfl⟩ | h
   ·simp at hnx
   ·exact h
  have hrow:(l.map λs=>[V.str s])[i]?=some [V.str nx]:=by simp[hnx]
  have hidx:indexAddr E 24 (.bS g (l.map λs=>[V.str s]) full) (.int .i64 (i:Int))=some (.cZ g [.str nx]):=by
   simp only[indexAddr,h44,h9];rw[an (by omega),dz,hrow];simp
  have hadd:wr .i64 (KN (i:Int) 1)=((i+1:Nat):Int):=Uk (by omega);have fnx:=vL (x:=nx) hok;have q1:=q1 nx hnx;cases hd:bN fe nx with
  |none=>
   rw[hd]at fnx;simp only[e_,fO,cV,fA,c_,dH,cR,dU,cA,yielded,aR,ofValue,bF,bf,cT,bL,kY,comp,cU,dW,iH,j_,eV,kA,bZ,cg,gk,Option.map_none,Fr.aH,Fr.aZ,hn,bg,ck,cm,reduceEqDiff,reduceLT,da,ay,reduceCtorEq,h196,h9,h3,loadAt,storeAt,isAgg,lookup,eF,entriesOf,cC h9,bin,arith,dj,ah,jt,jd,V.cells,setCells,jc,jB,gr,g70,g71,g72,g5,hlt,hidx,fnx,hadd,s0,s1];refine q1 Z (.inl ⟨rfl,by simp only[eN,hd]⟩) _ ?_ ?_ ?_
   ·simp only[Fr.aZ,hn]
   ·simp only[Fr.aH,Fr.aZ,hn,reduceEqDiff,reduceLT,da,bf,ay]
   ·intro t ht;simp only[Fr.aH]
    repeat (rw[an (by omega)])
  |some d=>
   rw[hd]at fnx;cases acc with
   |none=>
    have hcmp:decide (tP none<0)=true:=by decide
    simp only[e_,fO,cV,fA,c_,dH,cR,dU,cA,yielded,aR,ofValue,bF,bf,cT,bL,kY,comp,cU,dW,iH,j_,eV,kA,bZ,cg,gk,Fr.aH,Fr.aZ,hn,bg,ck,cm,reduceEqDiff,reduceLT,da,ay,reduceCtorEq,h196,h9,h3,loadAt,storeAt,isAgg,lookup,eF,entriesOf,cC h9,bin,arith,V.aY,dj,ah,qc,gz,qo,qh,jd,af,b9,V.cells,setCells,ki,cz,oz,ig,dh,j9,l5,OF,ot,jc,jB,gr,g70,g71,g72,g5,g15,hlt,hidx,fnx,hadd,s0,s1,sB,hcmp];refine q1 _ (.inr (by simp only[eN,hd,tP])) _ ?_ ?_ ?_
    ·simp only[Fr.aZ,hn]
    ·simp only[Fr.aH,Fr.aZ,hn,reduceEqDiff,reduceLT,da,bf,ay]
    ·intro t ht;simp only[Fr.aH]
     repeat (rw[an (by omega)])
   |some b=>
    have hcmp0:decide (tP (some b)<0)=false:=AS (by simp only[tP];omega);by_cases hlt2:d<b
    ·have hcmp:decide ((d:Int)<tP (some b))=true:=BY (by simp only[tP];omega);simp only[e_,fO,cV,fA,c_,dH,cR,dU,cA,yielded,aR,ofValue,bF,bf,cT,bL,kY,comp,cU,dW,iH,j_,eV,kA,bZ,cg,gk,Fr.aH,Fr.aZ,hn,bg,ck,cm,reduceEqDiff,reduceLT,da,ay,h196,h9,h3,loadAt,storeAt,isAgg,lookup,eF,entriesOf,cC h9,bin,arith,V.aY,dj,ah,qc,gz,qo,qh,af,b9,V.cells,setCells,ki,cz,oz,ig,dh,j9,l5,OF,ot,jc,jB,gr,g70,g71,g72,g5,g15,hlt,hidx,fnx,hadd,s0,s1,sB,hcmp0,hcmp];refine q1 _ (.inr (by simp only[eN,hd,tP,az hlt2])) _ ?_ ?_ ?_
     ·simp only[Fr.aZ,hn]
     ·simp only[Fr.aH,Fr.aZ,hn,reduceEqDiff,reduceLT,da,bf,ay]
     ·intro t ht;simp only[Fr.aH]
      repeat (rw[an (by omega)])
    ·have hcmp:decide ((d:Int)<tP (some b))=false:=AS (by simp only[tP];omega);simp only[e_,fO,cV,fA,c_,dH,cR,dU,cA,yielded,aR,ofValue,bF,bf,cT,bL,kY,comp,cU,dW,iH,j_,eV,kA,bZ,cg,gk,Fr.aH,Fr.aZ,hn,bg,ck,cm,reduceEqDiff,reduceLT,da,ay,h196,h9,h3,loadAt,storeAt,isAgg,lookup,eF,entriesOf,cC h9,bin,arith,dj,ah,gz,V.cells,setCells,jc,jB,gr,g70,g71,g72,g5,g15,hlt,hidx,fnx,hadd,s0,s1,sB,hcmp0,hcmp];refine q1 Z (.inl ⟨rfl,by simp only[eN,hd,an hlt2]⟩) _ ?_ ?_ ?_
     ·simp only[Fr.aZ,hn]
     ·simp only[Fr.aH,Fr.aZ,hn,reduceEqDiff,reduceLT,da,bf,ay]
     ·intro t ht;simp only[Fr.aH]
      repeat (rw[an (by omega)])
theorem NT (h196:E.ty 209=some { kd:=.map 9 3,size:=1,bytes:=8,zero:=.bX })(h111:E.ty 107=some { kd:=.map 9 24,size:=1,bytes:=8,zero:=.bX })(h44:E.ty 24=some { kd:=.sl 9,size:=1,bytes:=24,zero:=.aF })
  (h9:E.ty 9=some { kd:=.str,size:=1,bytes:=16,zero:=.str [] })(h3:E.ty 3=some { kd:=.int .i64,size:=1,bytes:=8,zero:=.int .i64 0 })(h4:E.ty 4=some { kd:=.bool,size:=1,bytes:=1,zero:=.bool false })
  {lv:V}{l:List (List Nat)}(hl:SV lv l) {B:Nat}(hB:2<=B) {fe:List (V × V)}(hok:mX fe)(hlen:l.length<=4000000000000000000) (N:Nat) :
  ∀(m i:Nat) (fr:Fr) (Z:Sg) (acc:Option Nat),m+i=l.length->acc=(l.take i).foldl (eN (bN fe)) none->fr.n=119->fr.get 70=some lv->fr.get 71=some (.int .i64 (l.length:Int))->fr.get 72=some (.int .i64 (i:Int))->fr.get 5=some (.ref 1 0)->fr.get 15=some (.ref B 0) ->
   Z[0]?=some (.map fe)->Z[1]?=some (.cells 209 [.mp 0] true)->Z[B]?=some (.cells 3 [.int .i64 (tP acc)] true) ->
   eR E (N+m+21) (.loop (bk [1,1,1,1,0,1,2,2])) fr Z λx fr' σ'=>x=.exit 6/\fr'.n=119/\(∀t,t<17->fr'.get t=fr.get t)/\σ'[0]?=some (.map fe)/\σ'[1]?=some (.cells 209 [.mp 0] true)/\σ'[B]?=some (.cells 3 [.int .i64 (tP (l.foldl (eN (bN fe)) none))] true):=by
 intro m
 induction m with
 |zero=>
  intro i fr Z acc hi ha hn g70 g71 g72 g5 g15 s0 s1 sB;show eR E ((N+20)+1) _ _ _ _;rw[nW];refine DZ h196 h111 h44 h9 h3 h4 N fr hn hl g70 g71 g72 g5 g15 hok hlen s0 s1 sB (λ_ fr' k1 k2=>?_) (λnx hnx=>?_) (by omega)
  ·refine⟨rfl,k1,λt ht=>k2 t (by omega),s0,s1,?_⟩;rw[sB,ha,ak (by omega)]
  ·have:=(AI.1 hnx).1;omega
 |succ m ih=>
  intro i fr Z acc hi ha hn g70 g71 g72 g5 g15 s0 s1 sB;show eR E ((N+m+1+20)+1) _ _ _ _;rw[nW];refine DZ h196 h111 h44 h9 h3 h4 (N+m+1) fr hn hl g70 g71 g72 g5 g15 hok hlen s0 s1 sB (λh=>by omega) (λnx hnx σ' hσ fr' k1 k2 k3=>?_) (by omega)
  have hacc:eN (bN fe) acc nx=(l.take (i+1)).foldl (eN (bN fe)) none:=by
   rw[ek,hnx,ha];simp
  have hBl:=(AI.1 sB).1
  obtain⟨t0,t1,tB⟩:σ'[0]?=some (.map fe)/\σ'[1]?=some (.cells 209 [.mp 0] true)/\σ'[B]?=some (.cells 3 [.int .i64 (tP (eN (bN fe) acc nx))] true):=by
   rcases hσ with⟨rfl,h⟩ | rfl
   ·exact⟨s0,s1,by rw[h];exact sB⟩
   ·exact⟨by rw[No (by omega)];exact s0,by rw[No (by omega)];exact s1,by simp[hBl]⟩
  have:=ih (i+1) fr' σ' _ (by omega) hacc k1 (by rw[k3 70 (by omega)];exact g70) (by rw[k3 71 (by omega)];exact g71) k2 (by rw[k3 5 (by omega)];exact g5) (by rw[k3 15 (by omega)];exact g15) t0 t1 tB;refine eK _ this ?_;rintro x fr2 σ2 ⟨rfl,b1,b2,b3⟩;exact⟨rfl,b1,λt ht=>(b2 t ht).trans (k3 t (by omega)),b3⟩
end
end
section
theorem Fr.II:∀(vs:List V) (fr:Fr) (i:Nat),i+vs.length<=fr.n->(fr.fill i vs).n=fr.n/\∀t,(fr.fill i vs).get t=if i<=t/\t<i+vs.length then vs[t-i]? else fr.get t
 | [],fr,i,_=>⟨rfl,λt=>by rw[an (by simp only[b9];omega)];rfl⟩
 |v::vs,fr,i,h=>by
  simp only[af]at h;obtain⟨h1,h2⟩:=Fr.II vs (fr.put i v) (i+1) (by rw[Fr.aZ];omega);refine⟨by rw[Fr.fill,h1,Fr.aZ],λt=>?_⟩;rw[Fr.fill,h2,Fr.aH];simp only[af];by_cases e:t=i
  ·subst e;rw[an (by omega),az (by omega),az (by omega),jl];rfl
  ·by_cases e2:i+1<=t/\t<i+1+vs.length
   ·rw[az e2,az (by omega),show t-i=(t-(i+1))+1 by omega];rfl
   ·rw[an e2,an (by omega),an (by omega)]
theorem Fr.Ds {n:Nat}{vs:List V}(h:vs.length<=n):∃fr,Fr.init n vs=some fr/\fr.n=n/\∀t v,vs[t]?=some v->fr.get t=some v:=by
 obtain⟨h1,h2⟩:=Fr.II vs ⟨n,.leaf⟩ 0 (by simpa using h);refine⟨_,by unfold Fr.init;rw[show Nat.ble vs.length n=true by rw[Nat.ble_eq];exact h],h1,λt v hv=>?_⟩;have:=(AI.1 hv).1;rw[h2,az (by omega)];simpa using hv
section
variable {E:Env}
theorem TX (h196:E.ty 209=some { kd:=.map 9 3,size:=1,bytes:=8,zero:=.bX })(h111:E.ty 107=some { kd:=.map 9 24,size:=1,bytes:=8,zero:=.bX })(h44:E.ty 24=some { kd:=.sl 9,size:=1,bytes:=24,zero:=.aF })
  (h9:E.ty 9=some { kd:=.str,size:=1,bytes:=16,zero:=.str [] })(h3:E.ty 3=some { kd:=.int .i64,size:=1,bytes:=8,zero:=.int .i64 0 })(h4:E.ty 4=some { kd:=.bool,size:=1,bytes:=1,zero:=.bool false })
  {fe:List (V × V)}(hok:mX fe) (n:Nat) (nx:List Nat) {g1 g2 g3:Bool} (b:Nat) (Z:Sg) :
  enter E (ev E (n+10)) (aA Tryz.f190) [.str nx,.cZ g1 [.imp g2 fe],.cZ g3 [.int .i64 (b:Int)]] Z=some (.bool (decide (bN fe nx=some b)),Z):=by
 obtain⟨fr,hf,hn,hg⟩:=Fr.Ds (n:=(aA Tryz.f190).ntmps) (vs:=[.str nx,.cZ g1 [.imp g2 fe],.cZ g3 [.int .i64 (b:Int)]]) (show 3<=19 by decide);have g0:=hg 0 _ rfl;have g1':=hg 1 _ rfl;have g2':=hg 2 _ rfl;have hn:fr.n=19:=hn;have fnx:=vL (x:=nx) hok;unfold enter;rw[hf];simp only[aA,Tryz.f190,aq];cases hd:bN fe nx with
 |none=>
  rw[hd]at fnx;simp only[Ko,DG,DH,gN,cA,yielded,aR,ofValue,bF,bf,cT,bL,kY,comp,cU,dW,iH,eV,kA,cg,gk,Option.map_none,Fr.aH,Fr.aZ,hn,bg,ck,cm,reduceEqDiff,reduceLT,da,ay,reduceCtorEq,h196,h9,h3,loadAt,isAgg,lookup,eF,entriesOf,cC h9,bin,arith,isConst,dj,je,ah,jt,jd,jc,GK,gr,g0,g1',g2',fnx,results];simp
 |some d=>
  rw[hd]at fnx
  have:decide ((d:Int)=(b:Int))=decide (d=b):=by
   by_cases h:d=b
   ·rw[BY h,BY (by omega)]
   ·rw[AS h,AS (by omega)]
  simp only[Ko,DG,DH,gN,cA,yielded,aR,ofValue,bF,bf,cT,bL,kY,comp,cU,dW,iH,eV,kA,cg,gk,Fr.aH,Fr.aZ,hn,bg,ck,cm,reduceEqDiff,reduceLT,da,ay,reduceCtorEq,h196,h9,h3,loadAt,isAgg,lookup,eF,entriesOf,cC h9,bin,arith,isConst,dj,je,ah,gz,qo,jd,jc,GK,g0,g1',g2',fnx,results,this]
noncomputable def ix (p:List Nat):Code:=B6 p (aA Tryz.f80).code
theorem Fl (h196:E.ty 209=some { kd:=.map 9 3,size:=1,bytes:=8,zero:=.bX })(h111:E.ty 107=some { kd:=.map 9 24,size:=1,bytes:=8,zero:=.bX })(h44:E.ty 24=some { kd:=.sl 9,size:=1,bytes:=24,zero:=.aF })
  (h9:E.ty 9=some { kd:=.str,size:=1,bytes:=16,zero:=.str [] })(h3:E.ty 3=some { kd:=.int .i64,size:=1,bytes:=8,zero:=.int .i64 0 })(h4:E.ty 4=some { kd:=.bool,size:=1,bytes:=1,zero:=.bool false })
  {pr:List Nat->Bool}{k c:Nat}{caps:List V}{Z:Sg}(hcl:∀n nx,g_ E (ev E (n+c)) k (.str nx::caps) Z=some (.bool (pr nx),Z)) {g full:Bool}{l:List (List Nat)}(hlen:l.length<=4000000000000000000) {i:Nat}{a:List Nat}(ha:l[i]?=some a) (N:Nat) (fr:Fr)
  (hn:fr.n=19) (g0:fr.get 0=some (.bS g (l.map λs=>[V.str s]) full)) (g1:fr.get 1=some (.fn k [] caps)) (g7:fr.get 7=some (.int .i64 (l.length:Int))) (g8:fr.get 8=some (.int .i64 (i:Int))) {Q:Option (X × Fr × Sg)->Prop}
  (q1:pr a=true->∀fr':Fr,fr'.get 4=some (.int .i64 (i:Int))->Q (some (.ret,fr',Z)))
  (q2:pr a=false->∀fr':Fr,fr'.n=19->fr'.get 8=some (.int .i64 ((i+1:Nat):Int))->(∀t,t=0\/t=1\/t=7->fr'.get t=fr.get t)->Q (some (.normal,fr',Z))):Q (ev E (N+c+20) (ix [1,0,1,2,2]) fr Z):=by
 have hil:=(AI.1 ha).1;have hlt:decide ((i:Int)<(l.length:Int))=true:=BY (by omega);have hrow:(l.map λs=>[V.str s])[i]?=some [V.str a]:=by simp[ha]
 have hidx:indexAddr E 24 (.bS g (l.map λs=>[V.str s]) full) (.int .i64 (i:Int))=some (.cZ g [.str a]):=by
  simp only[indexAddr,h44,h9];rw[an (by omega),dz,hrow];simp
 have hadd:wr .i64 (KN (i:Int) 1)=((i+1:Nat):Int):=Uk (by omega);simp only[ix,B6,aA,Tryz.f80,aq];cases hp:pr a with
 |true=>
  have hc:∀d,g_ E (ev E (N+c+d)) k (.str a::caps) Z=some (.bool true,Z):=λd=>by
   rw[show N+c+d=(N+d)+c by omega,hcl,hp]
  simp only[Mi,Ko,DG,Mj,DI,DH,gN,cA,aR,eH,bf,cT,bL,kY,comp,iH,eV,bZ,cg,Fr.aH,Fr.aZ,hn,reduceEqDiff,reduceLT,da,ay,reduceCtorEq,h9,loadAt,isAgg,bin,arith,ah,cz,jc,jB,eu,g0,g1,g7,g8,hlt,hidx,hc];refine q1 hp _ ?_;simp only[Fr.aH,Fr.aZ,hn,reduceEqDiff,reduceLT,da,bf,ay]
 |false=>
  have hc:∀d,g_ E (ev E (N+c+d)) k (.str a::caps) Z=some (.bool false,Z):=λd=>by
   rw[show N+c+d=(N+d)+c by omega,hcl,hp]
  simp only[Mi,DG,Mj,DI,DH,gN,cA,aR,eH,ofValue,bF,bf,cT,bL,kY,comp,iH,eV,bZ,cg,Fr.aH,Fr.aZ,hn,reduceEqDiff,reduceLT,da,ay,reduceCtorEq,h9,loadAt,isAgg,bin,arith,ah,cz,jc,jB,eu,g0,g1,g7,g8,hlt,hidx,hc,hadd];refine q2 hp _ ?_ ?_ ?_
  ·simp only[Fr.aZ,hn]
  ·simp only[Fr.aH,Fr.aZ,hn,reduceEqDiff,reduceLT,da,bf,ay]
  ·intro t ht;simp only[Fr.aH]
   repeat (rw[an (by omega)])
theorem Qg (h196:E.ty 209=some { kd:=.map 9 3,size:=1,bytes:=8,zero:=.bX })(h111:E.ty 107=some { kd:=.map 9 24,size:=1,bytes:=8,zero:=.bX })(h44:E.ty 24=some { kd:=.sl 9,size:=1,bytes:=24,zero:=.aF })
  (h9:E.ty 9=some { kd:=.str,size:=1,bytes:=16,zero:=.str [] })(h3:E.ty 3=some { kd:=.int .i64,size:=1,bytes:=8,zero:=.int .i64 0 })(h4:E.ty 4=some { kd:=.bool,size:=1,bytes:=1,zero:=.bool false })
  {pr:List Nat->Bool}{k c:Nat}{caps:List V}{Z:Sg}(hcl:∀n nx,g_ E (ev E (n+c)) k (.str nx::caps) Z=some (.bool (pr nx),Z)) {g full:Bool}{l:List (List Nat)}(hlen:l.length<=4000000000000000000) {idx:Nat}{a:List Nat}(ha:l[idx]?=some a)(hpa:pr a=true)(hno:∀j x,j<idx->l[j]?=some x->pr x=false) (N:Nat) :
  ∀(m i:Nat) (fr:Fr),m+i=idx->fr.n=19->fr.get 0=some (.bS g (l.map λs=>[V.str s]) full)->fr.get 1=some (.fn k [] caps)->fr.get 7=some (.int .i64 (l.length:Int))->fr.get 8=some (.int .i64 (i:Int)) ->
   ∃fr',ev E (N+m+c+21) (.loop (ix [1,0,1,2,2])) fr Z=some (.ret,fr',Z)/\fr'.get 4=some (.int .i64 (idx:Int)):=by
 have hil:=(AI.1 ha).1;intro m
 induction m with
 |zero=>
  intro i fr hi hn g0 g1 g7 g8;have hii:i=idx:=by omega
  subst hii;show ∃fr',ev E ((N+c+20)+1) _ _ _=_/\_;rw[IM];refine Fl (Q:=λr=>∃fr',wP E (N+c+20) (ix [1,0,1,2,2]) r=some (.ret,fr',Z)/\fr'.get 4=some (.int .i64 (i:Int))) h196 h111 h44 h9 h3 h4 hcl hlen ha N fr hn g0 g1 g7 g8 (λ_ fr' k1=>⟨fr',rfl,k1⟩) (λh=>?_);rw[hpa]at h;cases h
 |succ m ih=>
  intro i fr hi hn g0 g1 g7 g8;obtain⟨x,hx⟩:∃x,l[i]?=some x:=⟨_,AT (by omega)⟩;show ∃fr',ev E ((N+(m+1)+c+20)+1) _ _ _=_/\_;rw[IM];refine Fl (Q:=λr=>∃fr',wP E (N+(m+1)+c+20) (ix [1,0,1,2,2]) r=some (.ret,fr',Z)/\fr'.get 4=some (.int .i64 (idx:Int))) h196 h111 h44 h9 h3 h4 hcl hlen hx (N+(m+1)) fr hn g0 g1 g7 g8 (λh=>?_) (λ_ fr' k1 k2 k3=>?_)
  ·rw[hno i x (by omega) hx]at h;cases h
  ·obtain⟨fr2,h1,h2⟩:=ih (i+1) fr' (by omega) k1 (by rw[k3 0 (by omega)];exact g0) (by rw[k3 1 (by omega)];exact g1) (by rw[k3 7 (by omega)];exact g7) k2;refine⟨fr2,?_,h2⟩;simp only[wP];rw[show N+(m+1)+c+20=N+m+c+21 by omega];exact h1
theorem Nu (h196:E.ty 209=some { kd:=.map 9 3,size:=1,bytes:=8,zero:=.bX })(h111:E.ty 107=some { kd:=.map 9 24,size:=1,bytes:=8,zero:=.bX })(h44:E.ty 24=some { kd:=.sl 9,size:=1,bytes:=24,zero:=.aF })
  (h9:E.ty 9=some { kd:=.str,size:=1,bytes:=16,zero:=.str [] })(h3:E.ty 3=some { kd:=.int .i64,size:=1,bytes:=8,zero:=.int .i64 0 })(h4:E.ty 4=some { kd:=.bool,size:=1,bytes:=1,zero:=.bool false })
  {pr:List Nat->Bool}{k c:Nat}{caps:List V}{Z:Sg}(hcl:∀n nx,g_ E (ev E (n+c)) k (.str nx::caps) Z=some (.bool (pr nx),Z)) {g full:Bool}{l:List (List Nat)}(hlen:l.length<=4000000000000000000) {idx:Nat}{a:List Nat}(ha:l[idx]?=some a)(hpa:pr a=true)(hno:∀j x,j<idx->l[j]?=some x->pr x=false) (N:Nat) :
  enter E (ev E (N+idx+c+26)) (aA Tryz.f80) [.bS g (l.map λs=>[V.str s]) full,.fn k [] caps] Z=some (.int .i64 (idx:Int),Z):=by
 obtain⟨fr,hf,hn,hg⟩:=Fr.Ds (n:=(aA Tryz.f80).ntmps) (vs:=[.bS g (l.map λs=>[V.str s]) full,.fn k [] caps]) (show 2<=19 by decide);have g0:=hg 0 _ rfl;have g1:=hg 1 _ rfl;have hn:fr.n=19:=hn;unfold enter;rw[hf];have e1:(aA Tryz.f80).code=.seq (ix [0]) (.seq (.seq (ix [1,0,0]) (.block 0 (.loop (ix [1,0,1,2,2])))) (ix [1,1])):=rfl;rw[e1];generalize hL:Code.loop (ix [1,0,1,2,2])=L;generalize hR:ix [1,1]=R;simp only[ix,B6,aA,Tryz.f80,aq];simp only[DG,DI,DH,gN,cA,aR,eH,ofValue,bF,bf,cT,bL,kY,comp,aS,eL,builtin,cg,Fr.aH,Fr.aZ,hn,bg,cm,reduceEqDiff,reduceLT,da,ay,reduceCtorEq,h44,h9,gz,V.cells,setCells,g0,lenOf,bj];rw[<- hL]
 have key:∀fr:Fr,fr.n=19->fr.get 0=some (.bS g (l.map λs=>[V.str s]) full)->fr.get 1=some (.fn k [] caps)->fr.get 7=some (.int .i64 (l.length:Int))->fr.get 8=some (.int .i64 0) ->
   ∃fr',ev E (N+idx+c+22) (.loop (ix [1,0,1,2,2])) fr Z=some (.ret,fr',Z)/\fr'.get 4=some (.int .i64 (idx:Int)):=by
  intro fr hn g0 g1 g7 g8;have:=Qg h196 h111 h44 h9 h3 h4 hcl hlen ha hpa hno (N+1) idx 0 fr (by omega) hn g0 g1 g7 g8
  rwa [show N+1+idx+c+21=N+idx+c+22 by omega]at this
 generalize hfx:Fr.put (Fr.put (Fr.put (Fr.put fr 4 _) 6 _) 7 _) 8 _=fx;obtain⟨fr',k1,k2⟩:=key fx (by rw[<- hfx];simp only[Fr.aZ,hn]) (by rw[<- hfx];simp only[Fr.aH,Fr.aZ,hn,reduceEqDiff,reduceLT,da,ay,g0]) (by rw[<- hfx];simp only[Fr.aH,Fr.aZ,hn,reduceEqDiff,reduceLT,da,ay,g1]) (by rw[<- hfx];simp only[Fr.aH,Fr.aZ,hn,reduceEqDiff,reduceLT,da,bf,ay]) (by rw[<- hfx];simp only[Fr.aH,Fr.aZ,hn,reduceEqDiff,reduceLT,da,bf,ay]);rw[k1];simp only[results,k2]
end
end
section
section
variable {E:Env}
theorem zN {α:Type}{F:α->Option α}:∀{l:List α},(∀x∈l,F x=some x)->aX F l=some l
 | [],_=>rfl
 |x::l,h=>by
  simp only[aX,h x (IN ..),zN λy hy=>h y (ae _ hy)]
theorem O0 {Z:Sg}{ty:Nat->Option Ty}{n b:Nat}{fe:List (V × V)}(hb:Z[b]?=some (.map fe))(h:mX fe):bG Z ty true (n+2) (.mp b)=some (.imp true fe):=by
 rw[bG];simp only[hb];rw[zN];intro e he;obtain⟨k,m,rfl⟩:=h e he;simp[bG,cL,V.cells,plainCell]
theorem CI {Z:Sg}{ty:Nat->Option Ty}{b t:Nat}{c c':V}(hb:Z[b]?=some (.cells t [c] true))(hc:bG Z ty true 11 c=some c')(ht:cL true c'=true):aU.one Z ty true (.ref b 0)=some (.cZ true [c']):=by
 unfold aU.one;rw[show dL=11+1 from rfl,bG];simp only[hb,fc,aX,hc,ht,bf];rfl
theorem Qh (h196:E.ty 209=some { kd:=.map 9 3,size:=1,bytes:=8,zero:=.bX })(h111:E.ty 107=some { kd:=.map 9 24,size:=1,bytes:=8,zero:=.bX })(h44:E.ty 24=some { kd:=.sl 9,size:=1,bytes:=24,zero:=.aF })
  (h9:E.ty 9=some { kd:=.str,size:=1,bytes:=16,zero:=.str [] })(h3:E.ty 3=some { kd:=.int .i64,size:=1,bytes:=8,zero:=.int .i64 0 })(h4:E.ty 4=some { kd:=.bool,size:=1,bytes:=1,zero:=.bool false }) (f1:E.hspec 80=none) (f2:E.spec 80=none) (f3:E.fn 80=some (aA Tryz.f80)) (f4:E.mode 80=.eS) (f5:E.hspec 190=none) (f6:E.spec 190=none) (f7:E.fn 190=some (aA Tryz.f190)) (f8:E.mode 190=.shared)
  {fe:List (V × V)}(hok:mX fe) {Z:Sg}{B:Nat} (s0:Z[0]?=some (.map fe)) (s1:Z[1]?=some (.cells 209 [.mp 0] true)) {b:Nat} (sB:Z[B]?=some (.cells 3 [.int .i64 (b:Int)] true)) {lv:V}{l:List (List Nat)}(hl:SV lv l)(hlen:l.length<=4000000000000000000)
  {idx:Nat}{a:List Nat}(ha:l[idx]?=some a)(hpa:bN fe a=some b)(hno:∀j x,j<idx->l[j]?=some x->bN fe x≠some b) (N:Nat) :
  g_ E (ev E (N+l.length+40)) 80 [lv,.fn 190 [] [.ref 1 0,.ref B 0]] Z=some (.int .i64 (idx:Int),Z):=by
 obtain⟨g,full,rfl⟩:∃g full,lv=.bS g (l.map λs=>[V.str s]) full:=by
  rcases hl with⟨_,rfl⟩ | h
  ·simp at ha
  ·exact h
 have hil:=(AI.1 ha).1
 have hsn:aX (aU Z E.ty true) [.bS g (l.map λs=>[V.str s]) full,.fn 190 [] [.ref 1 0,.ref B 0]]=some [.bS g (l.map λs=>[V.str s]) full,.fn 190 [] [.cZ true [.imp true fe],.cZ true [.int .i64 (b:Int)]]]:=by
  have k1:=CI (ty:=E.ty) s1 (O0 (n:=9) s0 hok) rfl;have k2:=CI (ty:=E.ty) sB (c':=.int .i64 (b:Int)) (by simp only[bG]) rfl
  have k3:aU Z E.ty true (.bS g (l.map λs=>[V.str s]) full)=some (.bS g (l.map λs=>[V.str s]) full):=by
   simp only[aU,aU.one,dL,bG,cL,Bool.true_or,bf]
  have k4:aU Z E.ty true (.fn 190 [] [.ref 1 0,.ref B 0])=some (.fn 190 [] [.cZ true [.imp true fe],.cZ true [.int .i64 (b:Int)]]):=by
   simp only[aU,aX,k1,k2]
  simp only[aX,k3,k4]
 have hcl:∀n nx,g_ E (ev E (n+11)) 190 (.str nx::[.cZ true [.imp true fe],.cZ true [.int .i64 (b:Int)]]) []=some (.bool (decide (bN fe nx=some b)),[]):=λn nx=>by
  have:=TX h196 h111 h44 h9 h3 h4 hok (n+1) nx (g1:=true) (g2:=true) (g3:=true) b [];unfold g_;simp only[f5,f6,f7,f8];rw[show n+11=n+1+10 by omega,this]
 have hen:=Nu h196 h111 h44 h9 h3 h4 (Z:=[]) hcl (g:=g) (full:=full) hlen ha (by simp[hpa]) (λj x hj hx=>by simp[hno j x hj hx]) (N+l.length-idx+3);rw[show N+l.length-idx+3+idx+11+26=N+l.length+40 by omega]at hen;unfold g_;simp only[f1,f2,f3,f4,hsn,hen,cG,aU,aU.one,dL,bG,cL,bf]
theorem LU (h196:E.ty 209=some { kd:=.map 9 3,size:=1,bytes:=8,zero:=.bX })(h111:E.ty 107=some { kd:=.map 9 24,size:=1,bytes:=8,zero:=.bX })(h44:E.ty 24=some { kd:=.sl 9,size:=1,bytes:=24,zero:=.aF })
  (h9:E.ty 9=some { kd:=.str,size:=1,bytes:=16,zero:=.str [] })(h3:E.ty 3=some { kd:=.int .i64,size:=1,bytes:=8,zero:=.int .i64 0 })(h4:E.ty 4=some { kd:=.bool,size:=1,bytes:=1,zero:=.bool false })
  {fr:Fr}{Z:Sg}{x:Nat}{s:List Nat}(h:aR fr (.tmp x)=some (.str s)):fG E fr Z 24 1 #[(0,.tmp x)]=some (.sl Z.length 0 1 none,Z++[.cells 9 [.str s] true]):=by
 simp[fG,h44,h9,lN,h,fill,gX,V.cells,V.aY,setCells]
theorem KH (h196:E.ty 209=some { kd:=.map 9 3,size:=1,bytes:=8,zero:=.bX })(h111:E.ty 107=some { kd:=.map 9 24,size:=1,bytes:=8,zero:=.bX })(h44:E.ty 24=some { kd:=.sl 9,size:=1,bytes:=24,zero:=.aF })
  (h9:E.ty 9=some { kd:=.str,size:=1,bytes:=16,zero:=.str [] })(h3:E.ty 3=some { kd:=.int .i64,size:=1,bytes:=8,zero:=.int .i64 0 })(h4:E.ty 4=some { kd:=.bool,size:=1,bytes:=1,zero:=.bool false })
  {Z:Sg}{C:Nat}{cs:List V}{ex:Bool}{v:V}(hC:Z[C]?=some (.cells 9 cs ex))(hlen:cs.length<=2000000) :
  append E (Z++[.cells 9 [v] true]) #[24,24] (.sl C 0 cs.length none) (.sl Z.length 0 1 none)=some (.sl (Z.length+1) 0 (cs.length+1) none,(if ex then Z else Z.set C .dead)++[.cells 9 [v] true]++[.cells 9 (cs++[v]) false]):=by
 have hCl:=(AI.1 hC).1;have hC':(Z++[.cells 9 [v] true])[C]?=some (.cells 9 cs ex):=by rw[b8 hCl];exact hC
 have hD:(Z++[.cells 9 [v] true])[Z.length]?=some (.cells 9 [v] true):=by simp
 have hr:roomy (cs.length+1) 16=true:=by
  unfold roomy;rw[aa];omega
 have hp:eA E #[24,24]=true:=by
  simp[eA,h44,AR]
 have he:elems (Z++[.cells 9 [v] true]) 1 (.sl Z.length 0 1 none)=some ([v],1):=by
  simp only[elems,hD];simp
 unfold append;simp only[cm,bg,h44,h9,hp,he,hC',hr];cases ex with
 |true=>simp;intro h;omega
 |false=>simp[List.set_append_left _ _ hCl];intro h;omega
theorem sub1 {b:Nat}(h0:0<b)(h:b<=1000000):wr .i64 (RS (b:Int) 1)=((b-1:Nat):Int):=by
 have e:(2:Int) ^ IntKind.i64.bits=18446744073709551616:=by decide
 have e2:(2:Int) ^ (IntKind.i64.bits-1)=9223372036854775808:=by decide
 have e3:IntKind.i64.signed=true:=rfl;rw[F8,Bd];unfold IntKind.wrap;simp only[e,e2,e3,jh,aa];split <;> omega
theorem CY (h196:E.ty 209=some { kd:=.map 9 3,size:=1,bytes:=8,zero:=.bX })(h111:E.ty 107=some { kd:=.map 9 24,size:=1,bytes:=8,zero:=.bX })(h44:E.ty 24=some { kd:=.sl 9,size:=1,bytes:=24,zero:=.aF })
  (h9:E.ty 9=some { kd:=.str,size:=1,bytes:=16,zero:=.str [] })(h3:E.ty 3=some { kd:=.int .i64,size:=1,bytes:=8,zero:=.int .i64 0 })(h4:E.ty 4=some { kd:=.bool,size:=1,bytes:=1,zero:=.bool false }) (f1:E.hspec 80=none) (f2:E.spec 80=none) (f3:E.fn 80=some (aA Tryz.f80)) (f4:E.mode 80=.eS) (f5:E.hspec 190=none) (f6:E.spec 190=none) (f7:E.fn 190=some (aA Tryz.f190)) (f8:E.mode 190=.shared)
  {es:List (V × V)}{g:Bool}(hbk:gJ es) {fe:List (V × V)}(hok:mX fe) {fr:Fr}(hn:fr.n=119) {B C:Nat}{at_:List Nat}{cs:List V}{ex:Bool} (g0:fr.get 0=some (.imp g es)) (g5:fr.get 5=some (.ref 1 0)) (g15:fr.get 15=some (.ref B 0)) (g20:fr.get 20=some (.sl C 0 cs.length none)) (g21:fr.get 21=some (.str at_))
  {Z:Sg}{b:Nat} (s0:Z[0]?=some (.map fe)) (s1:Z[1]?=some (.cells 209 [.mp 0] true)) (sB:Z[B]?=some (.cells 3 [.int .i64 (b:Int)] true)) (sC:Z[C]?=some (.cells 9 cs ex))(hBC:B≠C)(hB:2<=B)(hC:2<=C)(hlen:cs.length<=2000000)(hb:b<=1000000) {K:Nat}(hK:K<=4000000000000000000)(hl:(b_ es at_).length<=K) (N:Nat) {Q:X->Fr->Sg->Prop}
  (q0:b=0->∀fr':Fr,fr'.n=119->(∀t,t<99->fr'.get t=fr.get t)->Q (.exit 8) fr' Z)
  (q1:0<b->∃(idx:Nat) (a:List Nat),(b_ es at_)[idx]?=some a/\bN fe a=some b/\(∀j x,j<idx->(b_ es at_)[j]?=some x->bN fe x≠some b) /\
   ∀(fr':Fr) (σ':Sg) (C':Nat),fr'.n=119->(∀t,t<20->fr'.get t=fr.get t)->fr'.get 20=some (.sl C' 0 (cs++[V.str a]).length none)->fr'.get 21=some (.str a)->σ'[0]?=some (.map fe)->σ'[1]?=some (.cells 209 [.mp 0] true)->σ'[B]?=some (.cells 3 [.int .i64 ((b-1:Nat):Int)] true)->σ'[C']?=some (.cells 9 (cs++[.str a]) false)->B≠C'->2<=C'->Q .normal fr' σ') :
  eR E (N+K+70) (bk [1,1,1,1,1,1,1,0,1,2,2]) fr Z Q:=by
 by_cases hb0:b=0
 ·have hcmp:decide ((0:Int)<(b:Int))=false:=AS (by omega);simp only[bk,B6,aA,Tryz.f159,aq];simp only[e_,fO,cV,fA,c_,dH,cR,dU,cA,aR,eH,ofValue,bF,bf,cT,bL,kY,comp,Fz.apps,Fz.lits,aS,dW,iH,j_,eV,bZ,eL,builtin,cg,Fr.aH,Fr.aZ,hn,bg,cm,reduceEqDiff,reduceLT,da,ay,h111,h44,h9,h3,loadAt,storeAt,isAgg,lookup,eF,entriesOf,cC h9,bin,arith,ah,gz,V.cells,setCells,jB,g15,sB,hcmp];refine q0 hb0 _ (by simp only[Fr.aZ,hn]) λt ht=>?_;simp only[Fr.aH]
  repeat (rw[an (by omega)])
 ·obtain⟨idx,a,ha,hpa,hno,q1⟩:=q1 (by omega);have hcmp:decide ((0:Int)<(b:Int))=true:=BY (by omega);obtain⟨r,hr1,hr2⟩:=DF (x:=at_) hbk;have hsv:=yH (x:=at_) hbk
  have hcall:∀d,g_ E (ev E (N+K+(d+40))) 80 [valOf es at_,.fn 190 [] [.ref 1 0,.ref B 0]] Z=some (.int .i64 (idx:Int),Z):=λd=>by
   have:=Qh h196 h111 h44 h9 h3 h4 f1 f2 f3 f4 f5 f6 f7 f8 hok s0 s1 sB hsv (by omega) ha hpa hno (N+K-(b_ es at_).length+d);rw[show N+K-(b_ es at_).length+d+(b_ es at_).length+40=N+K+(d+40) by omega]at this;exact this
  obtain⟨gg,full,hv⟩:∃gg full,valOf es at_=.bS gg ((b_ es at_).map λs=>[V.str s]) full:=by
   rcases hsv with⟨_,h⟩ | h
   ·rw[h]at ha;simp at ha
   ·exact h
  have hr3:iQ jU (.str at_) es=some (some (valOf es at_)):=by
   cases r with
   |none=>rw[hv]at hr2;cases hr2
   |some v=>rw[hr1];simp only[aq]at hr2;rw[hr2]
  have hrow:((b_ es at_).map λs=>[V.str s])[idx]?=some [V.str a]:=by simp[ha]
  have hidx:indexAddr E 24 (valOf es at_) (.int .i64 (idx:Int))=some (.cZ gg [.str a]):=by
   rw[hv];simp only[indexAddr,h44,h9];rw[an (by omega),dz,hrow];simp
  have hlit:∀(fr:Fr) (x:Nat) (s:List Nat),aR fr (.tmp x)=some (.str s)->fG E fr Z 24 1 #[(0,.tmp x)]=some (.sl Z.length 0 1 none,Z++[.cells 9 [.str s] true]):=λfr x s h=>LU h196 h111 h44 h9 h3 h4 h;have happ:=KH h196 h111 h44 h9 h3 h4 (v:=.str a) sC hlen;simp only[bk,B6,aA,Tryz.f159,aq];simp only[e_,fO,cV,fA,c_,dH,cR,dU,cA,aR,eH,ofValue,bF,bf,cT,bL,kY,comp,Fz.apps,Fz.lits,aS,dW,iH,j_,eV,bZ,eL,builtin,cg,Fr.aH,Fr.aZ,hn,bg,cm,reduceEqDiff,reduceLT,da,ay,reduceCtorEq,h111,h44,h9,h3,loadAt,storeAt,isAgg,lookup,eF,entriesOf,cC h9,bin,arith,dj,ah,gz,V.cells,setCells,cz,ig,jc,jB,jN,g0,g5,g15,g20,g21,sB,hcmp,hr3,hcall,hidx];generalize hfx:Fr.put _ 115 _=fx;have x115:aR fx (.tmp 115)=some (.str a):=by rw[<- hfx];simp only[aR,Fr.aH,Fr.aZ,hn,reduceEqDiff,reduceLT,da,bf,ay]
  have x114:fx.get 114=some (.sl C 0 cs.length none):=by rw[<- hfx];simp only[Fr.aH,Fr.aZ,hn,reduceEqDiff,reduceLT,da,bf,ay]
  have x21:fx.get 21=some (.str a):=by rw[<- hfx];simp only[Fr.aH,Fr.aZ,hn,reduceEqDiff,reduceLT,da,bf,ay]
  have x15:fx.get 15=some (.ref B 0):=by rw[<- hfx];simp only[Fr.aH,Fr.aZ,hn,reduceEqDiff,reduceLT,da,ay,g15]
  have xlo:∀t,t<20->fx.get t=fr.get t:=by
   intro t ht;rw[<- hfx];simp only[Fr.aH]
   repeat (rw[an (by omega)])
  have xn:fx.n=119:=by rw[<- hfx];simp only[Fr.aZ,hn]
  clear hfx;rw[hlit fx 115 a x115];have hn:=xn;obtain⟨Y,hτ⟩:∃Y,(if ex then Z else Z.set C .dead)++[O.cells 9 [.str a] true]++[O.cells 9 (cs++[.str a]) false]=Y:=⟨_,rfl⟩;rw[hτ]at happ;have hBl:=(AI.1 sB).1
  have hin:∀j o,j≠C->Z[j]?=some o->Y[j]?=some o:=by
   intro j o hj ho;have hjl:=(AI.1 ho).1;rw[<- hτ];cases ex with
   |true=>
    simp only[bf];rw[cw,b8 hjl];exact ho
   |false=>
    simp only[ah,ay];rw[cw,b8 (by simpa using hjl),No (λe=>hj e.symm)];exact ho
  have t0:=hin 0 _ (by omega) s0;have t1:=hin 1 _ (by omega) s1;have tB:=hin B _ hBC sB;have tlen:(if ex then Z else Z.set C .dead).length=Z.length:=by cases ex <;> simp
  have tC:Y[Z.length+1]?=some (.cells 9 (cs++[.str a]) false):=by
   rw[<- hτ,br (by simp[tlen])];simp[tlen]
  have hsub:=sub1 (by omega:0<b) hb;simp only[bf,cg,Fr.aH,Fr.aZ,hn,bg,reduceEqDiff,reduceLT,da,ay,V.aY,qc,qo,qh,af,b9,ki,cz,oz,ig,dh,j9,l5,OF,ot,happ,x114,x15,tB,hsub];refine q1 _ _ (Z.length+1) ?_ ?_ ?_ ?_ ?_ ?_ ?_ ?_ ?_ ?_
  ·simp only[Fr.aZ,hn]
  ·intro t ht;simp only[Fr.aH]
   repeat (rw[an (by omega)])
   exact xlo t ht
  ·simp only[Fr.aH,Fr.aZ,hn,reduceEqDiff,reduceLT,da,bf,ay,By,af,b9]
  ·simp only[Fr.aH,Fr.aZ,hn,reduceEqDiff,reduceLT,da,ay,x21]
  ·rw[No (by omega)];exact t0
  ·rw[No (by omega)];exact t1
  ·have:=(AI.1 tB).1;simp[this]
  ·rw[No (by omega)];exact tC
  ·omega
  ·omega
end
end
end Go.Ax
end
