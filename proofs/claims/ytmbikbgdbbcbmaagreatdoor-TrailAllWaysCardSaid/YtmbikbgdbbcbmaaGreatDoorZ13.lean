/- Part 13 of the proof. -/
import Derived.Test.YtmbikbgdbbcbmaaGreatDoorY
import Derived.Shelf.Strings.Builder1
import Derived.Shelf.Small.Bits
import Derived.Shelf.Small.Strs
import Derived.Shelf.Utf8.RuneCount
import Derived.Shelf.Strconv.Itoa0
import Derived.Shelf.Strconv.Itoa1
import Derived.Shelf.LaysM
import Derived.Shelf.Strconv.Itoa2
import Derived.Shelf.Strconv.Itoa3
import Derived.Shelf.Strings.Search1
import Derived.Shelf.Strings.Search2
import Derived.Shelf.Strings.Search3
import Derived.Shelf.Strings.Cut
import Derived.Shelf.Strings.Count
import Derived.Shelf.Strings.Shaped
import Derived.Shelf.Strings.Split
import Derived.Shelf.Unicode.DecodeSlow
import Derived.Shelf.Unicode.DecodeAny
import Derived.Ground.Names2Prog
import Derived.Shelf.Slices.Clone
import Derived.Shelf.Slices.CompactS
import Derived.Shelf.Slices.Cells
import Derived.Ground.SlgnProg
import Derived.Shelf.SlicesE.Clone
import Derived.Ground.SlgmProg
import Derived.Shelf.SortM.Plain
import Derived.Shelf.SortM.SortNone
import Derived.Test.YtmbikbgdbbcbmaaGreatDoorProg
import Derived.Test.YtmbikbgdbbcbmaaGreatDoorZ2
import Derived.Test.YtmbikbgdbbcbmaaGreatDoorZ3
import Derived.Lib.Bytealg
import Derived.Lib.Split
import Derived.Lib.SplitLaws
import Derived.Lib.IndexBytes
import Derived.Lib.MakeNoZero
import Derived.KernelRfl
set_option maxHeartbeats 8000000
set_option linter.unusedVariables false
open Nat renaming reduceEqDiff→δ,reduceLT→ε
open Go.Proofs.Tryz renaming prog→κ,underlying9→aE,underlying3→cD,underlying4→dE,f159→eh,underlying5→fy,f80→pf,zeroValue9→pi,f125→qt,zeroValue3→rg,zeroValue5→rh,underlying151→rq,underlying186→rr
open Go.Result renaming andThen_ok→ν
open Go renaming Value→ο,Operand→χ,World→Γ,MapEntry→ad,Oper→cd
open Go.Sem renaming run_bind→υ,run_pure→ψ
open Go.Ax.V renaming str→ab
open Go.Ax renaming setCells→ac,entriesOf→bm
open UInt8 renaming toNat→c7
open List renaming length→df,mem_map_of_mem→qx
open Go.Extern.BytealgMakeNoZero renaming makeNoZero→re
open Option renaming map_none→rj
section
namespace Go.Proofs
open Go.Shelf
section
def Tryz.lays137_ren:Go.Shelf.Ren:=⟨fun | 137=>267 | 217=>301 | 266=>322 | n=>n,fun | 9=>9 | 5=>5 | 3=>3 | n=>n,fun | n=>n⟩
theorem Tryz.lays137:Go.Proofs.Lays.n137 κ Tryz.lays137_ren:={
 mixed:=by kernel_rfl
 f137:=Tryz.func267.trans (b8 some (by kernel_rfl))
 f217:=Tryz.func301.trans (b8 some (by kernel_rfl))
 f266:=Tryz.func322.trans (b8 some (by kernel_rfl))
 t3:=cD
 a3:=Tryz.isAgg3
 z3:=Tryz.sizeOf3
 v3:=rg
 t5:=fy
 a5:=Tryz.isAgg5
 z5:=Tryz.sizeOf5
 v5:=rh
 t9:=aE
 a9:=Tryz.isAgg9
 z9:=Tryz.sizeOf9
 v9:=pi }
open Go.RowKit in
theorem Tryz.strings_IndexByte(s:ByteArray)(c:Int)(w:Γ) :
  Calls κ 267 #[.string s,.int .u8 c] w λe w'=>e=.returned (.int .i64 (Lib.indexByte s.data.toList c.toNat.toUInt8))/\w'=w:=Any.strings_IndexByte Tryz.lays137 s c w
def Tryz.lays145_ren:Go.Shelf.Ren:=⟨fun | 145=>308 | 220=>324 | 219=>295 | 217=>301 | 225=>315 | 224=>316 | 267=>317 | 266=>322 | 314=>329 | n=>n,fun | 9=>9 | 4=>4 | 59=>300 | 3=>3 | 5=>5 | 46=>151 | 146=>316 | 51=>186 | n=>n,fun | 1=>0 | n=>n⟩
theorem Tryz.lays145:Go.Proofs.Lays.n145 κ Tryz.lays145_ren:={
 mixed:=by kernel_rfl
 f145:=Tryz.func308.trans (b8 some (by kernel_rfl))
 f217:=Tryz.func301.trans (b8 some (by kernel_rfl))
 f219:=Tryz.func295.trans (b8 some (by kernel_rfl))
 f220:=Tryz.func324.trans (b8 some (by kernel_rfl))
 f224:=Tryz.func316.trans (b8 some (by kernel_rfl))
 f225:=Tryz.func315.trans (b8 some (by kernel_rfl))
 f266:=Tryz.func322.trans (b8 some (by kernel_rfl))
 f267:=Tryz.func317.trans (b8 some (by kernel_rfl))
 f314:=Tryz.func329.trans (b8 some (by kernel_rfl))
 t3:=cD
 a3:=Tryz.isAgg3
 z3:=Tryz.sizeOf3
 v3:=rg
 t4:=dE
 a4:=Tryz.isAgg4
 z4:=Tryz.sizeOf4
 v4:=Tryz.zeroValue4
 t5:=fy
 a5:=Tryz.isAgg5
 z5:=Tryz.sizeOf5
 v5:=rh
 t9:=aE
 a9:=Tryz.isAgg9
 z9:=Tryz.sizeOf9
 v9:=pi
 t46:=rq
 a46:=Tryz.isAgg151
 z46:=Tryz.sizeOf151
 v46:=Tryz.zeroValue151
 t51:=rr
 a51:=Tryz.isAgg186
 z51:=Tryz.sizeOf186
 v51:=Tryz.zeroValue186
 t59:=Tryz.underlying300
 a59:=Tryz.isAgg300
 z59:=Tryz.sizeOf300
 v59:=Tryz.zeroValue300
 t146:=Tryz.underlying316
 a146:=Tryz.isAgg316
 z146:=Tryz.sizeOf316
 v146:=Tryz.zeroValue316
 g1:=by kernel_rfl }
open Go.RowKit Go.Lib in
theorem Tryz.strings_Cut(s sep:ByteArray)(m:Int)(w:Γ)(hs:s.size<4294967281)(hm:w.cell? ⟨0,0,none⟩=some (.int .i64 m)) :
  Calls κ 308 #[.string s,.string sep] w λe w'=>e=.returned (.tuple #[.string ⟨(Lib.cut s.data.toList sep.data.toList).1.toArray⟩,.string ⟨(Lib.cut s.data.toList sep.data.toList).2.1.toArray⟩,.bool (Lib.cut s.data.toList sep.data.toList).2.2])/\∃n,w'=w.drewN n:=Any.strings_Cut Tryz.lays145 s sep m w hs hm
def Tryz.lays146_ren:Go.Shelf.Ren:=⟨fun | 146=>185 | 221=>218 | 268=>251 | 138=>252 | 143=>253 | 195=>292 | 197=>293 | 218=>294 | 219=>295 | 260=>314 | 217=>301 | 225=>315 | 224=>316 | 267=>317 | 266=>322 | 314=>329 | n=>n,fun | 9=>9 | 31=>24 | 3=>3 | 4=>4 | 0=>0 | 105=>292 | 21=>21 | 5=>5 | 46=>151 | 119=>312 | 139=>315 | 138=>314 | 146=>316 | 51=>186 | n=>n,fun | 1=>0 | 3=>1 | 4=>2 | n=>n⟩
theorem Tryz.lays146:Go.Proofs.Lays.n146 κ Tryz.lays146_ren:={
 mixed:=by kernel_rfl
 f138:=Tryz.func252.trans (b8 some (by kernel_rfl))
 f143:=Tryz.func253.trans (b8 some (by kernel_rfl))
 f146:=Tryz.func185.trans (b8 some (by kernel_rfl))
 f195:=Tryz.func292.trans (b8 some (by kernel_rfl))
 f197:=Tryz.func293.trans (b8 some (by kernel_rfl))
 f217:=Tryz.func301.trans (b8 some (by kernel_rfl))
 f218:=Tryz.func294.trans (b8 some (by kernel_rfl))
 f219:=Tryz.func295.trans (b8 some (by kernel_rfl))
 f221:=Tryz.func218.trans (b8 some (by kernel_rfl))
 f224:=Tryz.func316.trans (b8 some (by kernel_rfl))
 f225:=Tryz.func315.trans (b8 some (by kernel_rfl))
 f260:=Tryz.func314.trans (b8 some (by kernel_rfl))
 f266:=Tryz.func322.trans (b8 some (by kernel_rfl))
 f267:=Tryz.func317.trans (b8 some (by kernel_rfl))
 f268:=Tryz.func251.trans (b8 some (by kernel_rfl))
 f314:=Tryz.func329.trans (b8 some (by kernel_rfl))
 t0:=Tryz.underlying0
 a0:=Tryz.isAgg0
 z0:=Tryz.sizeOf0
 v0:=Tryz.zeroValue0
 t3:=cD
 a3:=Tryz.isAgg3
 z3:=Tryz.sizeOf3
 v3:=rg
 t4:=dE
 a4:=Tryz.isAgg4
 z4:=Tryz.sizeOf4
 v4:=Tryz.zeroValue4
 t5:=fy
 a5:=Tryz.isAgg5
 z5:=Tryz.sizeOf5
 v5:=rh
 t9:=aE
 a9:=Tryz.isAgg9
 z9:=Tryz.sizeOf9
 v9:=pi
 t21:=Tryz.underlying21
 a21:=Tryz.isAgg21
 z21:=Tryz.sizeOf21
 v21:=Tryz.zeroValue21
 t31:=Tryz.underlying24
 a31:=Tryz.isAgg24
 z31:=Tryz.sizeOf24
 v31:=Tryz.zeroValue24
 t46:=rq
 a46:=Tryz.isAgg151
 z46:=Tryz.sizeOf151
 v46:=Tryz.zeroValue151
 t51:=rr
 a51:=Tryz.isAgg186
 z51:=Tryz.sizeOf186
 v51:=Tryz.zeroValue186
 t105:=Tryz.underlying292
 a105:=Tryz.isAgg292
 z105:=Tryz.sizeOf292
 v105:=Tryz.zeroValue292
 t119:=Tryz.underlying312
 a119:=Tryz.isAgg312
 z119:=Tryz.sizeOf312
 t138:=Tryz.underlying314
 a138:=Tryz.isAgg314
 z138:=Tryz.sizeOf314
 v138:=Tryz.zeroValue314
 t139:=Tryz.underlying315
 a139:=Tryz.isAgg315
 z139:=Tryz.sizeOf315
 v139:=Tryz.zeroValue315
 t146:=Tryz.underlying316
 a146:=Tryz.isAgg316
 z146:=Tryz.sizeOf316
 v146:=Tryz.zeroValue316
 g1:=by kernel_rfl
 g3:=by kernel_rfl
 g4:=by kernel_rfl }
open Go.RowKit Go.Lib in
theorem Tryz.strings_Split(s sep:ByteArray)(m:Int)(w:Γ)(hs:s.size<4294967281)(hm:w.cell? ⟨0,0,none⟩=some (.int .i64 m))(h1:1<=sep.size) :
  Calls κ 185 #[.string s,.string sep] w λe w'=>
   e=.returned (.slice (some ⟨w.heap.size,0,none⟩) (Lib.countB s sep+1) (Lib.countB s sep+1))/\w'=w.alloc (.cells ((Lib.splitB sep 0 (Lib.countB s sep) s).map Value.string).toArray 9):=Any.strings_Split Tryz.lays146 (by kernel_rfl) s sep m w hs hm h1
end
end Go.Proofs
namespace Go.Ax
open Go
theorem tM(c:Nat)(hc:c<256):∀l:List UInt8,Lib.indexByte l c.toUInt8=match jY c (l.map c7) with | some i=>(i:Int) | none=>-1
 | []=>rfl
 |b::l=>by
  have ih:=tM c hc l
  have e:(b==c.toUInt8)=decide (b.toNat=c):=by
   have:c.toUInt8.toNat=c:=by simp[Nat.toUInt8];omega
   rw[ec];simp only[gp,af];constructor
   ·intro h;rw[h];exact this
   ·intro h;exact UInt8.toNat_inj.1 (by rw[h];exact this.symm)
  simp only[Lib.indexByte,bj,jY,e,af];by_cases h:b.toNat=c
  ·simp[h]
  ·simp only[h,b9];rw[ih];cases jY c (l.map c7) with
   |none=>rfl
   |some i=>
    dsimp only;rw[an (by simp)];simp
end Go.Ax
namespace Go.Ax
open Go Go.Proofs
theorem AE(E:Env):fJ κ E 267 jP:=by
 intro d vs xs v hσ hs hv h;unfold jP at h;split at h
 case h_2=>cases h
 rename_i s c;split at h
 case isFalse=>cases h
 rename_i hc;cases h;cases hv with | cons _ x _ xs hx hr=>
 cases hr with | cons _ y _ ys hy hr=>
 cases hr;obtain⟨b,rfl,hb⟩:=hx.eX;have:=hy.eG;subst this;refine .inl ⟨Tryz.call267 _ _,(Tryz.strings_IndexByte b c d.w).mono ?_⟩;rintro e w' ⟨rfl,rfl⟩;refine⟨_,rfl,d,rfl,hσ,Ext.refl d,hs,?_⟩;rw[tM c.toNat (by omega),show b.data.toList.map c7=s from hb];exact .inl (.int _ _)
end Go.Ax
namespace Go.Ax
open Go
theorem Bu(c:Nat):∀l:List Nat,jY c l=none->cT c l=[l]
 | [],_=>rfl
 |a::r,h=>by
  simp only[jY]at h;split at h
  ·cases h
  rename_i hne;split at h
  ·cases h
  rename_i hr;simp[cT,hne,Bu c r hr]
theorem CU(c:Nat):∀(l:List Nat)(i:Nat),jY c l=some i->cT c l=l.take i::cT c (l.drop (i+1))
 | [],i,h=>by cases h
 |a::r,i,h=>by
  simp only[jY]at h;split at h
  ·rename_i he;cases h;simp[cT,he]
  rename_i hne;split at h
  ·rename_i j hj;cases h;simp[cT,hne,CU c r j hj]
  ·cases h
end Go.Ax
namespace Go.Ax
open Go
theorem yH(s sep:ByteArray)(c:Nat)(hb:bytes sep=[c]):Lib.indexB s sep=match jY c (bytes s) with | some i=>(i:Int) | none=>-1:=by
 have hsz:sep.data.toList.map c7=[c]:=hb
 obtain⟨u,hu⟩:∃u,sep.data.toList=[u]:=by
  cases hl:sep.data.toList with
  |nil=>rw[hl]at hsz;cases hsz
  |cons u r=>
   cases r with
   |nil=>exact⟨u,rfl⟩
   |cons _ _=>rw[hl]at hsz;simp at hsz
 have hc:u.toNat=c:=by rw[hu]at hsz;simpa using hsz
 have e:Lib.indexB s sep=Lib.index s.data.toList sep.data.toList:=rfl;have hcc:c.toUInt8=u:=by rw[<- hc];simp
 rw[e,hu,Lib.index_one,<- hcc,tM c (by rw[<- hc];exact u.toNat_lt)];rfl
end Go.Ax
namespace Go.Ax
open Go
theorem FJ(c:Nat):∀(l:List Nat)(i:Nat),jY c l=some i->i<l.length
 | [],i,h=>by cases h
 |a::r,i,h=>by
  simp only[jY]at h;split at h
  ·cases h;simp
  split at h
  ·rename_i j hj;cases h;have:=FJ c r j hj;simp;omega
  ·cases h
theorem Ps(sep:ByteArray)(c:Nat)(hb:bytes sep=[c]):∀(n:Nat)(s:ByteArray),s.size<=n->(Lib.splitB sep 0 (Lib.countB s sep) s).map bytes=cT c (bytes s)/\(cT c (bytes s)).length=Lib.countB s sep+1:=by
 have h1:1<=sep.size:=by
  have:=b8 df hb;simp[bytes]at this;omega
 have hsep:sep.size=1:=by
  have:=b8 df hb;simpa [bytes]using this
 intro n
 induction n with
 |zero=>
  intro s hs
  have h0:bytes s=[]:=by
   have:(bytes s).length=0:=by
    have:(bytes s).length=s.size:=by simp[bytes]
    omega
   exact iu.1 this
  have hi:=yH s sep c hb;rw[h0]at hi;have hi':Lib.indexB s sep = -1:=hi;rw[Lib.countB_miss s sep hi',Lib.splitB_zero];simp[h0,cT]
 |succ n ih=>
  intro s hs;have hi:=yH s sep c hb;cases hx:jY c (bytes s) with
  |none=>
   rw[hx]at hi;have hi':Lib.indexB s sep = -1:=hi;rw[Lib.countB_miss s sep hi',Lib.splitB_zero,Bu c _ hx];simp
  |some i=>
   rw[hx]at hi;have hi':Lib.indexB s sep=(i:Nat):=hi;have hlt:=FJ c _ _ hx;have hlen:(bytes s).length=s.size:=by simp[bytes]
   have hrec:=ih (s.extract (i+sep.size) s.size) (by rw[ByteArray.size_extract];omega);rw[Lib.countB_hit s sep i h1 hi',lu 1,Lib.splitB_hit _ _ _ _ i hi',CU c _ i hx]
   have hd:bytes (s.extract (i+sep.size) s.size)=(bytes s).drop (i+1):=by
    rw[rK,hsep,ah (by rw[nj];omega)]
   rw[hd]at hrec;constructor
   ·rw[bj,hrec.1,rK];simp
   ·simp[hrec.2]
end Go.Ax
namespace Go.Ax
open Go Go.Proofs
theorem ME{E:Env}(hE:E.gl=FN){d:Cx}(hs:SR E d):∃m,d.w.cell? ⟨0,0,none⟩=some (.int .i64 m):=by
 obtain⟨o,h1,⟨m,t,fr,rfl⟩,_⟩:=hs.gl 0 (λo=>∃m t fr,o=.cells #[.int .i64 m] t fr) (by rw[hE];rfl);exact⟨m,by rw[oA h1];rfl⟩
theorem E0{w:Γ}{I:Bool->Nat->Prop}{blk:Nat}:∀(l:List ByteArray)(off:Nat),(∀(j:Nat) b,l[j]?=some b->w.cell? ⟨blk,off+j,none⟩=some (.string b)) ->
  eK w I 1 ((l.map bytes).map λp=>[ab p]) blk off
 | [],_,_=>.nil
 |a::l,off,h=>by
  refine .cons _ _ rfl (.cons _ _ _ (by simpa using h 0 a rfl) (.str _) .nil) (E0 l (off+1) λj b hj=>?_);have:=h (j+1) b (by simpa using hj)
  rwa [show off+(j+1)=off+1+j by omega]at this
theorem Gz(E:Env)(hE:E.gl=FN):fJ κ E 185 kR:=by
 intro d vs xs v hσ hs hv h;unfold kR at h;split at h
 case h_2=>cases h
 rename_i s c;split at h
 case isFalse=>cases h
 rename_i hc;cases h;cases hv with | cons _ x _ xs hx hr=>
 cases hr with | cons _ y _ ys hy hr=>
 cases hr;obtain⟨b,rfl,hb⟩:=hx.eX;obtain⟨sp,rfl,hsp⟩:=hy.eX;obtain⟨m,hm⟩:=ME hE hs;have hbs:b.size=s.length:=by rw[<- hb];simp[bytes]
 have hss:sp.size=1:=by
  have:=b8 df hsp;simpa [bytes]using this
 obtain⟨e1,e2⟩:=Ps sp c hsp b.size b (OF _);refine .inl ⟨Tryz.call185 _ _,(Tryz.strings_Split b sp m d.w (by omega) hm (by omega)).mono ?_⟩;rintro e w' ⟨rfl,rfl⟩;obtain⟨k1,k2⟩:=wP hs (w:=d.w.alloc (.cells ((Lib.splitB sp 0 (Lib.countB b sp) b).map Value.string).toArray 9)) (by simp) (λk hk=>Go.RowKit.Below.heap_alloc _ _ _ hk) rfl rfl rfl;refine⟨_,rfl,d.outer _,rfl,hσ,k1,k2,.inl (.bV false _ true d.w.heap.size 0 _ _ 1 ⟨by simp[Cx.outer],λho=>?_,λ_ ha=>?_⟩ ?_ (OF _) (λ_=>rfl) ?_)⟩
 ·have:=hs.vC (k:=d.w.heap.size) ho;omega
 ·have:=hs.jF _ ha;omega
 ·rw[bw,<- hb,e2]
 ·rw[<- hb,<- e1];refine E0 _ 0 λj q hj=>?_
  rw[oA (arr:=((Lib.splitB sp 0 (Lib.countB b sp) b).map Value.string).toArray) (t:=9) (fr:=(0,0)) (by
   show (d.w.heap.push _)[d.w.heap.size]?=_;simp)]
  simp[hj]
end Go.Ax
namespace Go.Ax
open Go Go.Proofs
theorem MS(c:Nat):∀l:List Nat,UE c l=match jY c l with | some i=>(l.take i,l.drop (i+1),true) | none=>(l,[],false)
 | []=>rfl
 |a::r=>by
  simp only[UE,jY];by_cases h:a=c
  ·simp[h]
  ·simp only[h,b9,MS c r];cases jY c r <;> simp
end Go.Ax
namespace Go.Ax
open Go Go.Proofs
theorem J5(E:Env)(hE:E.gl=FN):fJ κ E 308 wE:=by
 intro d vs xs v hσ hs hv h;unfold wE at h;split at h
 case h_2=>cases h
 rename_i s c;split at h
 case isFalse=>cases h
 rename_i hc;dsimp only at h;cases h;cases hv with | cons _ x _ xs hx hr=>
 cases hr with | cons _ y _ ys hy hr=>
 cases hr;obtain⟨b,rfl,hb⟩:=hx.eX;obtain⟨sp,rfl,hsp⟩:=hy.eX;obtain⟨m,hm⟩:=ME hE hs;have hbs:b.size=s.length:=by rw[<- hb];simp[bytes]
 refine .inl ⟨Tryz.call308 _ _,(Tryz.strings_Cut b sp m d.w (by omega) hm).mono ?_⟩;rintro e w' ⟨rfl,n,rfl⟩;obtain⟨k1,k2⟩:=wP hs (w:=d.w.drewN n) (by simp) (λk hk=>by simp) rfl rfl rfl
 have hidx:Lib.index b.data.toList sp.data.toList=match jY c s with | some i=>(i:Int) | none=>-1:=by
  rw[<- hb];exact yH b sp c hsp
 have hlen:sp.data.toList.length=1:=by
  have:=b8 df hsp;simpa [bytes]using this
 have hl:b.data.toList.map c7=s:=hb
 have str:∀(l:List UInt8),VR (d.outer (d.w.drewN n)) (.str (l.map c7)) (.string ⟨l.toArray⟩):=λl=>by
  have:bytes ⟨l.toArray⟩=l.map c7:=by simp[bytes]
  rw[<- this];exact .inl (.str _)
 refine⟨_,rfl,d.outer (d.w.drewN n),rfl,hσ,k1,k2,?_⟩;rw[MS];unfold Lib.cut;cases hx:jY c s with
 |none=>
  rw[hx]at hidx;have h0:¬ (0<=Lib.index b.data.toList sp.data.toList):=by rw[hidx];decide
  simp only[an h0];refine .fR _ [_,_,_] (.cons _ _ _ _ ?_ (.cons _ _ _ _ ?_ (.cons _ _ _ _ (.inl (.bool _)) .nil)))
  ·have:=str b.data.toList
   rwa [hl]at this
  ·exact str []
 |some i=>
  rw[hx]at hidx;have h0:0<=Lib.index b.data.toList sp.data.toList:=by rw[hidx];exact Int.natCast_nonneg _
  have h1:(Lib.index b.data.toList sp.data.toList).toNat=i:=by rw[hidx];rfl
  simp only[az h0,h1,hlen];refine .fR _ [_,_,_] (.cons _ _ _ _ ?_ (.cons _ _ _ _ ?_ (.cons _ _ _ _ (.inl (.bool _)) .nil)))
  ·have:=str (b.data.toList.take i)
   rwa [List.map_take,hl]at this
  ·have:=str (b.data.toList.drop (i+1))
   rwa [List.map_drop,hl]at this
end Go.Ax
namespace Go.Ax
open Go Go.Proofs
theorem Ow(n:Nat)(w:Γ):(callFunc 320 #[.int .i64 n]).run κ w=((re Tryz.f320.params Tryz.f320.resultTypes #[.int .i64 n]).run κ w).andThen λv w'=>.ok (.value v) w':=by
 have h1:Tryz.prog.funcs[320]?=some Tryz.f320:=Tryz.func320;have h2:(Tryz.f320.name == "runtime.NumGoroutine")=false:=by kernel_rfl
 have h3:Tryz.f320.body.isNone=true:=by kernel_rfl
 have h4:Extern.findNext Tryz.f320=none:=by kernel_rfl
 have h5:Extern.find Tryz.f320=some (re Tryz.f320.params Tryz.f320.resultTypes):=by kernel_rfl
 simp only[callFunc,υ,run_program,ν,h1,h2,h3,h4,h5,ai,b9,bf,run_mark,ψ]
end Go.Ax
namespace Go.Ax
open Go Go.Proofs
theorem Rl(E:Env){i:Ty}(hi:E.ty 5=some i)(hsz:i.size=1)(hP:Tryz.prog.underlying 5=some (.int .u8)):iI κ E 320 (MC 5):=by
 intro c vs xs v σ' hs hv h;unfold MC at h;split at h
 case h_2=>cases h
 rename_i n;split at h
 case isFalse=>cases h
 rename_i hn;injection h with h;injection h with h1 h2;subst h1 h2;cases hv with | cons _ x _ xs hx hr=>
 cases hr;have:=hx.eG;subst this;obtain⟨k,rfl⟩:∃k:Nat,n=k:=⟨n.toNat,by omega⟩;obtain⟨cs,r1,r2,_⟩:=Lib.run_makeNoZero (P:=κ) c.w Tryz.f320.params _ 5 (show Tryz.prog.underlying (Tryz.f320.resultTypes[0]!)=some (.slice 5) by kernel_rfl) k (by omega);have hrt:Tryz.f320.resultTypes = #[Tryz.f320.resultTypes[0]!]:=by kernel_rfl
 have hrun:(callFunc 320 [Value.int .i64 (k:Int)].toArray).run κ c.w=.ok (.value (.slice (some ⟨c.w.heap.size,0,none⟩) k cs.size)) (c.w.drew.drew.alloc (.cells cs 5)):=by
  show (callFunc 320 #[.int .i64 (k:Int)]).run κ c.w=_;rw[Ow,hrt,r1];rfl
 obtain⟨c',q1,q2,q3,q4,q5,q6,q7⟩:=Me (c:=c.drew.drew) (Cx.wS (Cx.wS hs)) hi (cs:=[]) (xs:=[]) (ys:=cs.toList) .nil rfl;refine .inr ⟨_,_,hrun,c',?_,q2,(c.kO.trans c.drew.kO).trans q3,q4,?_⟩
 ·rw[q1];rfl
 ·have q5':c'.blk c.Z.length=c.w.heap.size:=q5;rw[<- q5'];refine .sl _ _ _ _ _ (by rw[q2];simp[Cx.drew]) (by simpa using r2) (λk hk=>by cases hk) (λ_=>?_);have q6':c'.tot c.Z.length=0+cs.toList.length:=q6;have q7':c'.yP c.Z.length=i.size:=q7;rw[q6',q7',hsz];simp
end Go.Ax
namespace Go.Ax
open Go Go.Proofs
theorem Jj(x:ο)(w:Γ):(callFunc 318 #[x]).run κ w=.ok (.value x) w:=by
 have h1:Tryz.prog.funcs[318]?=some Tryz.f318:=Tryz.func318;have h2:(Tryz.f318.name == "runtime.NumGoroutine")=false:=by kernel_rfl
 have h3:Tryz.f318.body.isNone=true:=by kernel_rfl
 have h4:Extern.findNext Tryz.f318=none:=by kernel_rfl
 have h5:Extern.find Tryz.f318=some Extern.AbiNoEscape.same:=by kernel_rfl
 have h6:(Extern.AbiNoEscape.same #[x]).run κ w=.ok x w:=rfl;simp only[callFunc,υ,run_program,ν,h1,h2,h3,h4,h5,ai,b9,bf,run_mark,ψ,h6]
theorem KN(E:Env):iI κ E 318 Cs:=by
 intro c vs xs v σ' hs hv h;unfold Cs at h;split at h
 case h_2=>cases h
 injection h with h;injection h with h1 h2;subst h1 h2;cases hv with | cons _ x _ xs hx hr=>
 cases hr;exact .inr ⟨_,_,Jj x c.w,c,rfl,rfl,Ext.refl c,hs,hx⟩
end Go.Ax
namespace Go.Ax
open Go
section
def Fq(fr:Fr)(Z:Sg)(x:χ)(K:V->Sg->Prop):Prop:=
 match aS fr x with
 |some (.ref b 0)=>match Z[b]? with
  |some (.tF left _)=>(left=[]->K (.fR [.bool false]) Z)/\∀a e z,left=a++e::z->K (.fR [.bool true,e.1,e.2]) (Z.set b (.tF (a++z) (some e)))
  |_=>False
 |_=>False
def eA:Op->Option χ
 | .next x false=>some x
 |_=>none
def cV(E:Env)(ev:yQ)(ops:Array cd):List cd->Fr->Sg->(Fr->Sg->Prop)->Prop
 | [],fr,Z,K=>K fr Z
 |o::rest,fr,Z,K=>match eA o.op with
  |some x=>cE ops o fr=true/\Fq fr Z x λv σ'=>cV E ev ops rest (cW fr o.dst v) σ' K
  |none=>match bN E ev .no ops o fr Z with
   |some (fr',σ')=>cV E ev ops rest fr' σ' K
   |none=>False
def eV(E:Env):Nat->Code->Fr->Sg->(X->Fr->Sg->Prop)->Prop
 |0,_,_,_,_=>False
 |n+1,c,fr,Z,Q=>match c with
  | .skip=>Q .normal fr Z
  | .seq a b=>eV E n a fr Z λx fr Z=>match x with
   | .normal=>eV E n b fr Z Q
   |x=>Q x fr Z
  | .cond c t e=>match aS fr c with
   |some (.bool true)=>eV E n t fr Z Q
   |some (.bool false)=>eV E n e fr Z Q
   |_=>False
  | .block id c=>eV E n c fr Z λx fr Z=>match x with
   | .exit id'=>if id'=id then Q .normal fr Z else Q (.exit id') fr Z
   |x=>Q x fr Z
  | .loop c=>eV E n c fr Z λx fr Z=>match x with
   | .normal=>eV E n (.loop c) fr Z Q
   |x=>Q x fr Z
  | .exit id=>Q (.exit id) fr Z
  | .ret=>Q .ret fr Z
  | .region _ ops draw=>match draw with
   |true=>match cP E (ev E n) ops fr Z with
    |some (fr,Z)=>Q .normal fr Z
    |none=>False
   |false=>cV E (ev E n) ops ops.toList fr Z (Q .normal)
  |_=>False
section
variable {E:Env}{n:Nat}{fr:Fr}{Z:Sg}{Q:X->Fr->Sg->Prop}
theorem fC:eV E (n+1) .skip fr Z Q=Q .normal fr Z:=by rw[eV]
theorem fU{id:Nat}:eV E (n+1) (.exit id) fr Z Q=Q (.exit id) fr Z:=by rw[eV]
theorem Gq:eV E (n+1) .ret fr Z Q=Q .ret fr Z:=by rw[eV]
theorem dA{a b:Code}:eV E (n+1) (.seq a b) fr Z Q=eV E n a fr Z λx fr Z=>match x with
   | .normal=>eV E n b fr Z Q
   |x=>Q x fr Z:=by rw[eV]
theorem fD{c:χ}{t e:Code}:eV E (n+1) (.cond c t e) fr Z Q=match aS fr c with
   |some (.bool true)=>eV E n t fr Z Q
   |some (.bool false)=>eV E n e fr Z Q
   |_=>False:=by rw[eV]
theorem dB{id:Nat}{c:Code}:eV E (n+1) (.block id c) fr Z Q=eV E n c fr Z λx fr Z=>match x with
   | .exit id'=>if id'=id then Q .normal fr Z else Q (.exit id') fr Z
   |x=>Q x fr Z:=by rw[eV]
theorem oE{c:Code}:eV E (n+1) (.loop c) fr Z Q=eV E n c fr Z λx fr Z=>match x with
   | .normal=>eV E n (.loop c) fr Z Q
   |x=>Q x fr Z:=by rw[eV]
theorem dI{id:Nat}{ops:Array cd}:eV E (n+1) (.region id ops false) fr Z Q=cV E (ev E n) ops ops.toList fr Z (Q .normal):=by rw[eV]
end
section
variable {E:Env}{n:Nat}{fr:Fr}{Z:Sg}
theorem MN:ev E (n+1) .skip fr Z=some (.normal,fr,Z):=by rw[ev]
theorem KR:ev E (n+1) .ret fr Z=some (.ret,fr,Z):=by rw[ev]
theorem DW{a b:Code}:ev E (n+1) (.seq a b) fr Z=match ev E n a fr Z with
   |some (.normal,fr,Z)=>ev E n b fr Z
   |r=>r:=by rw[ev];rfl
theorem MO{c:χ}{t e:Code}:ev E (n+1) (.cond c t e) fr Z=match aS fr c with
   |some (.bool true)=>ev E n t fr Z
   |some (.bool false)=>ev E n e fr Z
   |_=>no "cond" := by rw[ev];rfl
theorem DY{id:Nat}{c:Code}:ev E (n+1) (.block id c) fr Z=match ev E n c fr Z with
   |some (.exit id',fr,Z)=>if id'=id then some (.normal,fr,Z) else some (.exit id',fr,Z)
   |r=>r:=by rw[ev];rfl
def wV(E:Env)(n:Nat)(c:Code):Option (X × Fr × Sg)->Option (X × Fr × Sg)
 |some (.normal,fr,Z)=>ev E n (.loop c) fr Z
 |r=>r
theorem Je{c:Code}:ev E (n+1) (.loop c) fr Z=wV E n c (ev E n c fr Z):=by rw[ev];rfl
theorem DX{id:Nat}{ops:Array cd}:ev E (n+1) (.region id ops false) fr Z=match gY E (ev E n) .no ops ops.toList fr Z with
   |some (fr,Z)=>some (.normal,fr,Z)
   |none=>none:=by rw[ev];simp only[ai,b9];rfl
end
section
variable {P:Program}{E:Env}
def wB(E:Env)(c:Cx)(Q:X->Fr->Sg->Prop)(e:Exit)(a:Act)(w:Γ):Prop:=∃x fr Z,Q x fr Z/\Post E c x fr Z e a w
theorem wB.trans{c c':Cx}{Q:X->Fr->Sg->Prop}{e:Exit}{a:Act}{w:Γ}(h:Ext c c')(hp:wB E c' Q e a w):wB E c Q e a w:=by
 obtain⟨x,fr,Z,h1,h2⟩:=hp;exact⟨x,fr,Z,h1,h2.trans h⟩
theorem Kz{c:Cx}(hs:SR E c){fr:Fr}{a:Act}(hf:FR c fr a.tmps){o:cd}{x:χ}(ho:o.op=.next x false){K:V->Sg->Prop}(h:Fq fr c.Z x K)
  {next:Act->Γ->Prop}{Q:Exit->Act->Γ->Prop}(hn:∀v σ' y w',K v σ'->jO E c v σ' y w'->next (a.put o.dst y) w'):o.wp P a c.w next Q:=by
 unfold Fq at h;split at h
 case h_2=>exact h.elim
 rename_i b hx;split at h
 case h_2=>exact h.elim
 rename_i left cur hob;obtain⟨hp,hblt⟩:=(aM hf hx).iV;have hlv:live c.Z b:=⟨_,hob,rfl⟩
 have run:∀(y:ο)(w':Γ),(Instr.next (.pointer (some ⟨c.blk b,0,none⟩)) false o.type).run P c.w=.ok y w'->next (a.put o.dst y) w'->o.wp P a c.w next Q:=by
  intro y w' hr hk;unfold Oper.wp
  have:(execOp a.eval o).run P c.w=.ok (.value y) w':=by
   unfold execOp;rw[ho];simp only[hp];simp only[υ,hr,ν,ψ]
  rw[this];exact hk
 rcases hs.obj b _ hob with⟨h1,h0,h2⟩ | ⟨g,m,en,cl,seen,l,k1,k2,k3,k4,k5,k6,k7⟩
 ·refine run (.tuple #[.bool false]) c.w ?_ (hn _ _ _ _ (h.1 h1) ⟨c,rfl,rfl,Ext.refl c,hs,.fR _ [_] (.cons _ _ _ _ (.inl (.bool _)) .nil)⟩);simp only[Instr.next,getObj,υ,Sem.run,h2,Result.andThen];rfl
 ·have hl:∀q,q∈(leftOf en seen).toList ↔ q∈l:=λq=>by rw[k5.mem_iff];simp[leftOf]
  rcases run_next_at (P:=P) c.w o.type (c.blk b) m cl cl seen en cl k1 k3 k4.st.1 (OF _) with⟨r1,r2⟩ | ⟨q,r1,w1,r2,r3⟩
  ·have:l=[]:=by
    cases l with
    |nil=>rfl
    |cons q l=>
     have:=(hl q).2 (No ..);rw[Array.eq_empty_of_size_eq_zero r1]at this;simp at this
   subst this;have hleft:left=[]:=by cases k6;rfl
   exact run _ _ r2 (hn _ _ _ _ (h.1 hleft) ⟨c,rfl,rfl,Ext.refl c,hs,.fR _ [_] (.cons _ _ _ _ (.inl (.bool _)) .nil)⟩)
  ·have hq:=(hl q).1 r1
   have part:∀{left:List (V × V)}{l:List ad},jE c left l->q∈l->∃a e z la lz,left=a++e::z/\l=la++q::lz/\jE c (a++z) (la++lz)/\sM c.w c.bE e.1 q.key/\VR c e.2 q.val:=by
    intro left l hm
    induction hm with
    |nil=>intro hq;cases hq
    |cons k v es e l hk hv hr ih=>
     intro hq;by_cases hqe:q=e
     ·subst hqe;exact⟨[],(k,v),es,[],l,rfl,rfl,hr,hk,hv⟩
     ·have hq':q∈l:=by
       rcases IN.1 hq with hq | hq
       ·exact absurd hq hqe
       ·exact hq
      obtain⟨a,e',z,la,lz,e1,e2,e3,e4,e5⟩:=ih hq';exact⟨(k,v)::a,e',z,e::la,lz,by rw[e1];rfl,by rw[e2];rfl,.cons _ _ _ _ _ hk hv e3,e4,e5⟩
   obtain⟨pa,pe,pz,la,lz,e1,e2,e3,e4,e5⟩:=part k6 hq
   let c1:Cx:={ c with w:=w1 }
   have hc1:SR E c1/\Ext c c1/\w1.heap=c.w.heap:=by
    rcases r2 with rfl | rfl
    ·exact⟨hs,Ext.refl c,rfl⟩
    ·exact⟨Cx.wS hs,c.kO,rfl⟩
   obtain⟨hs1,hx1,hh1⟩:=hc1;have hlv1:live c1.Z b:=hlv;have hx2:=Cx.mU (c:=c1) hlv1 (.mapIter (some m) cl (seen.push q.born) cl) (.tF (pa++pz) (some pe));have hx3:=hx1.trans hx2
   have hqen:q∈en.toList:=by
    have:=r1;simp only[leftOf,Array.toList_filter,mu]at this;exact this.1
   have hs2:SR E (c1.put b (.mapIter (some m) cl (seen.push q.born) cl) (.tF (pa++pz) (some pe))):=by
    refine Cx.uZ hs1 hlv1 _ _ (.inr ⟨g,m,en,cl,seen.push q.born,la++lz,?_,(hx3.wider g m k2).1,by rw[(hx3.wider g m k2).2];exact k3,k4,?_,e3.mono hx3,?_⟩)
    ·have hlt:=jI k1;show (w1.heap.setIfInBounds (c.blk b) _)[c.blk b]?=_;rw[hh1];simp[hlt]
    ·have hnd:(en.toList.map (·.born)).Nodup:=k4.st.2.1;have hp2:(la++q::lz).Perm (en.toList.filter λe=>!seen.contains e.born):=by rw[<- e2];exact k5
     have hf:(en.toList.filter λe=>!(seen.push q.born).contains e.born)=(en.toList.filter λe=>!seen.contains e.born).filter λe=>!(e.born==q.born):=by
      rw[List.filter_filter];refine List.filter_congr λe _=>?_;simp only[Array.contains_push,Bool.not_or];rw[Bool.and_comm]
     rw[hf];have hp3:=hp2.filter λe:ad=>!(e.born==q.born)
     have hnd2:((la++q::lz).map (·.born)).Nodup:=by
      have:((en.toList.filter λe=>!seen.contains e.born).map (·.born)).Nodup:=hnd.sublist (List.filter_sublist.map _);exact(hp2.map _).nodup_iff.2 this
     have hself:(la++q::lz).filter (λe:ad=>!(e.born==q.born))=la++lz:=by
      rw[gj,bj,jx]at hnd2;obtain⟨n1,n2,n3⟩:=hnd2;rw[dw]at n2;rw[nu,List.filter_cons];have q0:(!(q.born==q.born))=false:=by simp
      rw[q0,an (by simp)];congr 1
      ·rw[my];intro e he;have:e.born≠q.born:=λh=>n3 _ (qx he) _ (No ..) h;simp[this]
      ·rw[my];intro e he;have:e.born≠q.born:=λh=>n2.1 (by rw[<- h];exact qx he);simp[this]
     rw[hself]at hp3;exact hp3
    ·intro e he;cases he;exact⟨q,hqen,⟨seen,rfl⟩,sM.mono hx3.wider e4,e5.mono hx3⟩
   refine run _ _ r3 (hn _ _ _ _ (h.2 pa pe pz e1) ⟨_,?_,rfl,hx3,hs2,.fR _ [_,_,_] (.cons _ _ _ _ (.inl (.bool _)) (.cons _ _ _ _ ((sM.mono hx3.wider e4).vr) (.cons _ _ _ _ (e5.mono hx3) .nil)))⟩);rfl
theorem oV(he:cG P E)(hfs:f_ P E){ev:yQ}(hev:Gi P E ev){ops:Array cd}{Q:X->Fr->Sg->Prop}:∀(rest:List cd)(k:Nat),ops.toList.drop k=rest->∀{c:Cx}{fr:Fr}{a:Act},SR E c->FR c fr a.tmps->a.defers=[] ->
  cV E ev ops rest fr c.Z (Q .normal)->∀(c0:Cx),Ext c0 c->wpOps P ops (wB E c0 Q) (List.range' k rest.length) a c.w
 | [],k,_,c,fr,a,hs,hf,hd,h,c0,hx=>⟨.normal,fr,c.Z,h,rfl,hd,c,rfl,rfl,hx,hs,hf⟩
 |o::rest,k,hk,c,fr,a,hs,hf,hd,h,c0,hx=>by
  have ho:ops[k]?=some o:=by
   have:=b8 (·[0]?) hk;simpa using this
  have hk':ops.toList.drop (k+1)=rest:=by
   have:=b8 List.tail hk;simpa using this
  simp only[IT,List.range'_succ,wpOps,ho];rw[CG hf];simp only[cV]at h;split at h
  ·rename_i x hnx
   have hop:o.op=.next x false:=by
    unfold eA at hnx;split at hnx
    ·rename_i heq;cases hnx;exact heq
    ·cases hnx
   obtain⟨hw,h⟩:=h;rw[az hw]
   left
   refine Kz hs hf hop h ?_;rintro v σ' y w' hK ⟨c',rfl,rfl,k1,k2,k3⟩;exact oV he hfs hev rest (k+1) hk' k2 (FR.put (FR.mono k1 hf) k3 o.dst) (by rw[put_defers];exact hd) hK c0 (hx.trans k1)
  ·split at h
   case h_2=>exact h.elim
   rename_i fr1 σ1 hst;unfold bN at hst;simp only[AU]at hst;split at hst
   ·rename_i hw;rw[az hw]
    left
    split at hst
    case h_2=>cases hst
    rename_i v σ2 hop;injection hst with hst;injection hst with e1 e2;subst e1 e2;refine Df he hfs hev hs hf hop ?_;rintro x w' ⟨c',rfl,rfl,k1,k2,k3⟩;exact oV he hfs hev rest (k+1) hk' k2 (FR.put (FR.mono k1 hf) k3 o.dst) (by rw[put_defers];exact hd) h c0 (hx.trans k1)
   ·rename_i hw;rw[an hw];injection hst with hst;injection hst with e1 e2;subst e1 e2;exact oV he hfs hev rest (k+1) hk' hs (hf.put .undef o.dst) (by rw[put_defers];exact hd) h c0 hx
def RunA(P:Program)(E:Env)(n:Nat):Prop:=∀(code:Code)(fr:Fr)(Z:Sg)(Q:X->Fr->Sg->Prop),eV E n code fr Z Q ->
 ∀(c:Cx)(a:Act),SR E c->c.Z=Z->FR c fr a.tmps->a.defers=[]->code.wp P (wB E c Q) a c.w
theorem ET(he:cG P E)(hfs:f_ P E)(hmix:P.follows .mixedOrders=true):∀n,RunA P E n /\
  ∀(c1:Code)(fr:Fr)(Z:Sg)(Q:X->Fr->Sg->Prop),eV E n (.loop c1) fr Z Q->∀(c:Cx)(a:Act),SR E c->c.Z=Z->FR c fr a.tmps->a.defers=[] ->
   ∀c0,Ext c0 c->Code.rounds P c1 (wB E c0 Q) n a c.w
 |0=>by
  constructor
  ·intro code fr Z Q h;simp only[eV]at h
  ·intro c1 fr Z Q h;simp only[eV]at h
 |n+1=>by
  obtain⟨ih,ihl⟩:=ET he hfs hmix n
  have loops:∀(c1:Code)(fr:Fr)(Z:Sg)(Q:X->Fr->Sg->Prop),eV E (n+1) (.loop c1) fr Z Q->∀(c:Cx)(a:Act),SR E c->c.Z=Z->FR c fr a.tmps->a.defers=[] ->
    ∀c0,Ext c0 c->Code.rounds P c1 (wB E c0 Q) (n+1) a c.w:=by
   intro c1 fr Z Q h c a hs hσ hf hd c0 hx;rw[rounds_succ];simp only[eV]at h;refine wp_mono (ih _ _ _ _ h c a hs hσ hf hd) ?_;rintro e a1 w1 ⟨x,fr1,σ1,hq,hx1,hd1,c',rfl,hσ1,k1,k2,k3⟩;cases x with
   |normal=>
    cases hx1;exact ihl c1 fr1 σ1 Q hq c' a1 k2 hσ1 k3 hd1 c0 (hx.trans k1)
   |exit id=>cases hx1;exact⟨.exit id,fr1,σ1,hq,rfl,hd1,c',rfl,hσ1,hx.trans k1,k2,k3⟩
   |ret=>cases hx1;exact⟨.ret,fr1,σ1,hq,rfl,hd1,c',rfl,hσ1,hx.trans k1,k2,k3⟩
  refine⟨λcode fr Z Q h c a hs hσ hf hd=>?_,loops⟩;subst hσ;cases code with
  |skip=>
   simp only[eV]at h;exact wp_skip ⟨.normal,fr,c.Z,h,rfl,hd,c,rfl,rfl,Ext.refl c,hs,hf⟩
  |exit id=>
   simp only[eV]at h;exact wp_exit ⟨.exit id,fr,c.Z,h,rfl,hd,c,rfl,rfl,Ext.refl c,hs,hf⟩
  |ret=>
   simp only[eV]at h;exact wp_ret ⟨.ret,fr,c.Z,h,rfl,hd,c,rfl,rfl,Ext.refl c,hs,hf⟩
  |seq x y=>
   simp only[eV]at h;refine wp_seq ?_;refine wp_mono (ih _ _ _ _ h c a hs rfl hf hd) ?_;rintro e a1 w1 ⟨x,fr1,σ1,hq,hx1,hd1,c',rfl,hσ1,k1,k2,k3⟩;cases x with
   |normal=>
    cases hx1;exact wp_mono (ih _ _ _ _ hq c' a1 k2 hσ1 k3 hd1) λe a w hp=>hp.trans k1
   |exit id=>cases hx1;exact⟨.exit id,fr1,σ1,hq,rfl,hd1,c',rfl,hσ1,k1,k2,k3⟩
   |ret=>cases hx1;exact⟨.ret,fr1,σ1,hq,rfl,hd1,c',rfl,hσ1,k1,k2,k3⟩
  |cond x y z=>
   simp only[eV]at h;split at h
   ·rename_i hx;exact wp_cond_true (aM hf hx).gO (ih _ _ _ _ h c a hs rfl hf hd)
   ·rename_i hx;exact wp_cond_false (aM hf hx).gO (ih _ _ _ _ h c a hs rfl hf hd)
   ·exact h.elim
  |block id x=>
   simp only[eV]at h;refine wp_block ?_;refine wp_mono (ih _ _ _ _ h c a hs rfl hf hd) ?_;rintro e a1 w1 ⟨x,fr1,σ1,hq,hx1,hp⟩;cases x with
   |normal=>cases hx1;exact⟨.normal,fr1,σ1,hq,rfl,hp⟩
   |ret=>cases hx1;exact⟨.ret,fr1,σ1,hq,rfl,hp⟩
   |exit id'=>
    cases hx1;simp only[Exit.inBlock];simp only at hq;split at hq
    ·rename_i heq;rw[az heq];exact⟨.normal,fr1,σ1,hq,rfl,hp⟩
    ·rename_i heq;rw[an heq];exact⟨.exit id',fr1,σ1,hq,rfl,hp⟩
  |loop x=>exact wp_loop_rounds (n+1) (loops x fr c.Z Q h c a hs rfl hf hd c (Ext.refl c))
  |region id ops draw=>
   simp only[eV]at h;cases draw with
   |false=>
    refine wp_region ?_;simp only at h;rw[List.range_eq_range',<- jc];exact oV he hfs (rZ he hfs hmix n).1 ops.toList 0 (by simp) hs hf hd h c (Ext.refl c)
   |true=>
    simp only at h;split at h
    case h_2=>exact h.elim
    rename_i fr1 σ1 h1
    have hr:ev E (n+1) (.region id ops true) fr c.Z=some (.normal,fr1,σ1):=by
     simp only[ev,bf,h1]
    exact wp_mono ((rZ he hfs hmix (n+1)).1 _ _ _ _ _ _ hr c a hs rfl hf hd) λe a w hp=>⟨.normal,fr1,σ1,h,hp⟩
  |_=>simp only[eV]at h
def Cw(E:Env)(n:Nat)(F:Fn)(args:List V)(Z:Sg)(R:V->Sg->Prop):Prop:=
 ∃fr,Fr.init F.ntmps args=some fr/\eV E n F.code fr Z λx fr Z=>(x=.normal\/x=.ret)/\∃vs,results E fr Z F.results=some vs/\R (match vs with | [v]=>v | vs=>.fR vs) Z
theorem xK(he:cG P E)(hfs:f_ P E)(hmix:P.follows .mixedOrders=true){f:Nat}{F:Fn}(hF:E.fn f=some F){c:Cx}(hs:SR E c){vs:List V}{xs:List ο}(hv:fH c vs xs){n:Nat}{R:V->Sg->Prop}
  (h:Cw E n F vs c.Z R):Calls P f xs.toArray c.w λe w'=>∃x v σ',e=.returned x/\R v σ'/\jO E c v σ' x w':=by
 obtain⟨fn,h1,h2,h3,h4,h5⟩:=hfs.fn f F hF;obtain⟨fr0,hfr0,h⟩:=h;refine calls_of_wp h1 h2 ?_
 have:=(ET he hfs hmix n).1 _ _ _ _ h c { tmps:=xs.toArray++Array.replicate (fn.ntmps-xs.toArray.size) undef,defers:=[] } hs rfl (by
  have:=FR.init hv hfr0;simpa [h3]using this) rfl
 refine wp_mono this ?_;rintro e a w ⟨x,fr1,σ1,⟨hq1,us,hu,hR⟩,hx,hd,c',rfl,rfl,k1,k2,k3⟩
 have fin:a.defers=[]/\∃v',(Go.results fn a.tmps).run P c'.w=.ok v' c'.w/\∃x v σ',Ending.returned v'=.returned x/\R v σ'/\jO E c v σ' x c'.w:=by
  refine⟨hd,?_⟩;obtain⟨ys,g1,g2⟩:=jR he k2 k3 hu
  have run:∀v',(if h:ys.toArray.size=1 then ys.toArray[0] else .tuple ys.toArray)=v'->(Go.results fn a.tmps).run P c'.w=.ok v' c'.w:=by
   rintro v' rfl;rw[sX,o9,h4];simp only[υ,Sem.run_map];rw[g1];simp
  cases g2 with
  |nil=>exact⟨_,run _ rfl,_,_,_,rfl,hR,c',rfl,rfl,k1,k2,.fR [] [] .nil⟩
  |cons u y us ys hy hr=>
   cases hr with
   |nil=>exact⟨y,run _ (by simp),_,_,_,rfl,hR,c',rfl,rfl,k1,k2,hy⟩
   |cons u' y' us ys hy' hr=>
    refine⟨.tuple (y::y'::ys).toArray,run _ ?_,_,_,_,rfl,hR,c',rfl,rfl,k1,k2,.fR _ _ (.cons _ _ _ _ hy (.cons _ _ _ _ hy' hr))⟩;rw[dif_neg (by simp)]
 rcases hq1 with rfl | rfl
 ·cases hx;exact fin
 ·cases hx;exact fin
theorem rC(hfs:f_ P E){f:Nat}{F:Fn}(hF:E.fn f=some F){xs:List ο}{w:Γ}{R:ο->Γ->Prop}(h:Calls P f xs.toArray w λe w'=>∃x,e=.returned x/\R x w'):sK P f xs w R:=by
 obtain⟨fn,f1,f2,f3,f4,f5⟩:=hfs.fn f F hF;have f5':¬ fn.name = "runtime.NumGoroutine" := by simpa using f5
 exact .inl ⟨by simp[callFunc,f1,f5',f2],h⟩
theorem Gy(he:cG P E)(hfs:f_ P E)(hmix:P.follows .mixedOrders=true){f:Nat}{F:Fn}(hF:E.fn f=some F){s:List V->Option V}
  (h:∀vs v,s vs=some v->∃n,Cw E n F vs [] λu Z=>cQ Z E.ty false u=some v):fJ P E f s:=by
 intro d vs xs v hd hs hv hm;obtain⟨n,hn⟩:=h vs v hm;refine rC hfs hF ?_;have hi:=rX hs []
 have hvi:fH (d.inner (d.fW [])) vs xs:=by
  refine fH.mono ?_ hv
  have ho:∀k,¬ d.own k:=by
   rintro k ⟨b,⟨o,ho,_⟩,_⟩;rw[hd]at ho;cases ho
  have hanc:(d.inner (d.fW [])).nT=d.nT:=by
   funext k;exact propext ⟨λh=>h.resolve_right (ho k),λh=>.inl h⟩
  exact⟨OF _,λk _ _=>⟨rfl,nO⟩,by rw[hd];exact OF _,λ_ _=>rfl,λ_ _=>rfl,λ_ _=>rfl,hanc,rfl,rfl,rfl⟩
 refine(xK he hfs hmix hF hi hvi hn).mono ?_;rintro e w' ⟨x,u,σ1,rfl,hR,d1,rfl,hσ,hx,hsd,hxv⟩;rw[<- hσ]at hR;obtain⟨g1,g2,g3⟩:=pK hs hx hsd hxv hR;exact⟨x,rfl,(d.fW []).outer d1.w,rfl,hd,g1,g2,g3⟩
end
theorem jE.perm{c:Cx}{es es':List (V × V)}{l:List ad}(h:jE c es l)(hp:es.Perm es'):∃l',l.Perm l'/\jE c es' l':=by
 induction hp generalizing l with
 |nil=>exact⟨l,.refl _,h⟩
 |cons x _ ih=>
  cases h with | cons k v es e l hk hv hr=>
  obtain⟨l',h1,h2⟩:=ih hr;exact⟨e::l',.cons _ h1,.cons _ _ _ _ _ hk hv h2⟩
 |swap x y l0=>
  cases h with | cons k v es e l hk hv hr=>
  cases hr with | cons k' v' es e' l hk' hv' hr=>
  exact⟨e'::e::l,.swap ..,.cons _ _ _ _ _ hk' hv' (.cons _ _ _ _ _ hk hv hr)⟩
 |trans _ _ ih1 ih2=>
  obtain⟨l1,h1,h2⟩:=ih1 h;obtain⟨l2,h3,h4⟩:=ih2 h2;exact⟨l2,h1.trans h3,h4⟩
def ks:V × V->List Nat
 |(.str k,_)=>k
 |_=>[]
def jK(es:List (V × V)):Prop:=∀e∈es,∃k,e.1=.str k
theorem IA{k:List Nat}{v:V}:∀{es:List (V × V)},jK es->(es.map ks).Nodup->∃l,kX jZ (.str k) v es=some l/\jK l/\(l.map ks).Nodup/\∀e,e∈l ↔ e=(.str k,v)\/(e∈es/\ks e≠k)
 | [],_,_=>⟨[(.str k,v)],rfl,by intro e he;simp at he;subst he;exact⟨k,rfl⟩,by simp,by simp⟩
 |(k',v')::es,h,hn=>by
  obtain⟨k2,hk2⟩:=h (k',v') (No ..);simp only at hk2;subst hk2;simp only[bj,dw]at hn;have hr:jK es:=λe he=>h e (ae _ he);by_cases e:k=k2
  ·subst e;have hb:jZ (.str k) (.str k)=some true:=by simp[jZ,seq_eq]
   refine⟨(.str k,v)::es,by simp only[kX,hb],?_,?_,?_⟩
   ·intro e he;rcases IN.1 he with rfl | he
    ·exact⟨k,rfl⟩
    ·exact hr e he
   ·simp only[bj,dw];exact hn
   ·intro e;simp only[IN];constructor
    ·rintro (rfl | he)
     ·exact .inl rfl
     ·exact .inr ⟨.inr he,λhk=>hn.1 (cv.2 ⟨e,he,hk⟩)⟩
    ·rintro (rfl | ⟨rfl | he,hk⟩)
     ·exact .inl rfl
     ·exact absurd rfl hk
     ·exact .inr he
  ·obtain⟨l,h1,h2,h3,h4⟩:=IA (k:=k) (v:=v) hr hn.2;have hb:jZ (.str k) (.str k2)=some false:=by simp[jZ,seq_eq,e]
   refine⟨(.str k2,v')::l,by simp only[kX,hb,h1],?_,?_,?_⟩
   ·intro e he;rcases IN.1 he with rfl | he
    ·exact⟨k2,rfl⟩
    ·exact h2 e he
   ·simp only[bj,dw];refine⟨λhm=>?_,h3⟩;obtain⟨x,hx,hxk⟩:=cv.1 hm;rcases (h4 x).1 hx with rfl | ⟨hx,_⟩
    ·exact e hxk
    ·exact hn.1 (cv.2 ⟨x,hx,hxk⟩)
   ·intro x;simp only[IN,h4];constructor
    ·rintro (rfl | rfl | ⟨hx,hk⟩)
     ·exact .inr ⟨.inl rfl,λhk=>e hk.symm⟩
     ·exact .inl rfl
     ·exact .inr ⟨.inr hx,hk⟩
    ·rintro (rfl | ⟨rfl | hx,hk⟩)
     ·exact .inr (.inl rfl)
     ·exact .inl rfl
     ·exact .inr (.inr ⟨hx,hk⟩)
theorem pY:∀{p:List (V × V)}{es:List (V × V)},jK p->(p.map ks).Nodup->jK es->(es.map ks).Nodup->∃l,lT es p=some l/\jK l/\(l.map ks).Nodup/\∀e,e∈l ↔ e∈p\/(e∈es/\ks e ∉ p.map ks)
 | [],es,_,_,h,hn=>⟨es,rfl,h,hn,by simp⟩
 |(k',v)::p,es,hp,hpn,h,hn=>by
  obtain⟨k,hk⟩:=hp (k',v) (No ..);simp only at hk;subst hk;simp only[bj,dw]at hpn;obtain⟨l1,a1,a2,a3,a4⟩:=IA (k:=k) (v:=v) h hn;obtain⟨l,b1,b2,b3,b4⟩:=pY (p:=p) (es:=l1) (λe he=>hp e (ae _ he)) hpn.2 a2 a3;refine⟨l,?_,b2,b3,?_⟩
  ·simp only[lT,a1,b1]
  ·intro e;rw[b4,a4];simp only[IN,bj,ql];constructor
   ·rintro (he | ⟨rfl | ⟨he,h1⟩,h2⟩)
    ·exact .inl (.inr he)
    ·exact .inl (.inl rfl)
    ·exact .inr ⟨he,h1,h2⟩
   ·rintro ((rfl | he) | ⟨he,h1,h2⟩)
    ·exact .inr ⟨.inl rfl,hpn.1⟩
    ·exact .inl he
    ·exact .inr ⟨.inr ⟨he,h1⟩,h2⟩
theorem Im{p p' es:List (V × V)}{l l':List (V × V)}(hpp:p.Perm p')(hp:jK p)(hpn:(p.map ks).Nodup)(h:jK es)(hn:(es.map ks).Nodup)(h1:lT es p=some l)(h2:lT es p'=some l'):l.Perm l':=by
 obtain⟨a,a1,a2,a3,a4⟩:=pY hp hpn h hn;obtain⟨b,b1,b2,b3,b4⟩:=pY (p:=p') (λe he=>hp e (hpp.mem_iff.2 he)) ((hpp.map ks).nodup_iff.1 hpn) h hn;rw[a1]at h1;cases h1;rw[b1]at h2;cases h2;have nd:∀{l:List (V × V)},(l.map ks).Nodup->l.Nodup:=λh=>(List.pairwise_map.1 h).imp λh e=>h (by rw[e]);refine(List.perm_ext_iff_of_nodup (nd a3) (nd b3)).2 λe=>?_;rw[a4,b4,hpp.mem_iff,(hpp.map ks).mem_iff]
section
variable {E:Env}
def aside(Z:Sg)(d:Nat):Sg:=Z.mapIdx λj o=>if j=d then o else .dead
theorem yM{Z:Sg}{d:Nat}:(aside Z d)[d]?=Z[d]?:=by
 simp[aside]
theorem B0{Z:Sg}{d j:Nat}{o:O}(h:(aside Z d)[j]?=some o)(hj:j≠d):o=.dead:=by
 simp only[aside,List.getElem?_mapIdx,Option.map_eq_some_iff]at h;obtain⟨o',_,h⟩:=h;rw[an hj]at h;exact h.symm
theorem pM(Z:Sg)(d:Nat):(aside Z d).length=Z.length:=by simp[aside]
def Cx.aside(c:Cx)(d:Nat):Cx:={ c with Z:=Ax.aside c.Z d }
theorem l_{Z:Sg}{d j:Nat}(h:live (aside Z d) j):j=d/\live Z d:=by
 obtain⟨o,ho,ha⟩:=h;by_cases e:j=d
 ·subst e;exact⟨rfl,o,by rw[<- yM];exact ho,ha⟩
 ·have:=B0 ho e;subst this;cases ha
theorem Cx.R_{c:Cx}(h:SR E c)(d:Nat):SR E (c.aside d)/\Ext c (c.aside d):=by
 have hext:Ext c (c.aside d):=⟨OF _,λk _ ho=>⟨rfl,λ⟨j,hj,e⟩=>by
   obtain⟨rfl,hl⟩:=l_ hj;exact ho ⟨j,hl,e⟩⟩,by simp[Cx.aside,pM],λ_ _=>rfl,λ_ _=>rfl,λ_ _=>rfl,rfl,rfl,rfl,rfl⟩
 refine⟨⟨λi j hi hj _=>by rw[(l_ hi).1,(l_ hj).1],λj o ho=>?_,λj hj=>?_,h.jF,qG hext h.gl⟩,hext⟩
 ·by_cases e:j=d
  ·subst e;have ho':c.Z[j]?=some o:=by rw[<- yM];exact ho
   exact(h.obj j o ho').mono hext (AI.1 ho').1 rfl
  ·have:=B0 ho e;subst this;exact True.intro
 ·obtain⟨rfl,hl⟩:=l_ hj;exact h.nT j hl
theorem SR.restore{c c':Cx}{d:Nat}{o:O}(hs:SR E c)(hlv:live c.Z d)(hx:Ext (c.aside d) c'){σ3:Sg}(hlen:σ3.length=c'.Z.length)
  (hold:∀j,j<c.Z.length->j≠d->σ3[j]?=c.Z[j]?)(hd:σ3[d]?=some o)(hnew:∀j o,c.Z.length<=j->σ3[j]?=some o->o=.dead)
  (hob:Ext c { c' with Z:=σ3 }->uN E { c' with Z:=σ3 } d o)(hanc:∀k,c'.nT k->k<c'.w.heap.size):SR E { c' with Z:=σ3 }/\Ext c { c' with Z:=σ3 }:=by
 have hdl:=eC hlv;have hblk:∀j,j<c.Z.length->c'.blk j=c.blk j:=λj hj=>hx.blk j (by simpa [Cx.aside,pM]using hj)
 have lv:∀{j},live σ3 j->j<c.Z.length/\live c.Z j:=by
  rintro j ⟨o',ho,ha⟩;rcases cr j c.Z.length with hj | hj
  ·by_cases e:j=d
   ·subst e;exact⟨hj,hlv⟩
   ·exact⟨hj,o',by rw[<- hold j hj e];exact ho,ha⟩
  ·have:=hnew j o' hj ho;subst this;cases ha
 have hext:Ext c { c' with Z:=σ3 }:=by
  refine⟨hx.size,λk hk ho=>?_,?_,hblk,λj hj=>hx.tot j (by simpa [Cx.aside,pM]using hj),λj hj=>hx.yP j (by simpa [Cx.aside,pM]using hj),hx.nT,hx.os,hx.tape,hx.output⟩
  ·have ho':¬ (c.aside d).own k:=λ⟨j,hj,e⟩=>by
    obtain⟨rfl,hl⟩:=l_ hj;exact ho ⟨j,hl,e⟩
   refine⟨(hx.keep k hk ho').1,?_⟩;rintro⟨j,hj,e⟩;obtain⟨h1,h2⟩:=lv hj;exact ho ⟨j,h2,by rw[<- hblk j h1];exact e⟩
  ·show c.Z.length<=σ3.length;rw[hlen];simpa [Cx.aside,pM]using hx.len
 refine⟨⟨λi j hi hj e=>?_,λj o' ho=>?_,λj hj=>?_,hanc,qG hext hs.gl⟩,hext⟩
 ·obtain⟨i1,i2⟩:=lv hi;obtain⟨j1,j2⟩:=lv hj;have e:c'.blk i=c'.blk j:=e;rw[hblk i i1,hblk j j1]at e;exact hs.inj i j i2 j2 e
 ·have ho:σ3[j]?=some o':=ho;rcases cr j c.Z.length with hj | hj
  ·by_cases e:j=d
   ·subst e;rw[hd]at ho;cases ho;exact hob hext
   ·have ho':c.Z[j]?=some o':=by rw[<- hold j hj e];exact ho
    by_cases hl:live c.Z j
    ·refine(hs.obj j o' ho').mono hext hj ?_
     have hnk:¬ (c.aside d).own (c.blk j):=λ⟨i,hi,h⟩=>by
      obtain⟨rfl,hl'⟩:=l_ hi;exact e (hs.inj j i hl hl' h.symm)
     exact(hx.keep _ (hs.lt hl) hnk).1
    ·cases o' with
     |dead=>exact True.intro
     |_=>exact(hl ⟨_,ho',rfl⟩).elim
  ·have:=hnew j o' hj ho;subst this;exact True.intro
 ·obtain⟨j1,j2⟩:=lv hj;show ¬ c'.nT (c'.blk j);rw[hblk j j1,show c'.nT=c.nT from hx.nT];exact hs.nT j j2
theorem Qg{c c':Cx}{v:V}{x:ο}(hp:plainCell v=true)(h:VR c v x):VR c' v x:=by
 cases v with
 |bool b=>rw[h.gO];exact .inl (.bool _)
 |int k n=>rw[h.eG];exact .inl (.int _ _)
 |str s=>obtain⟨b,rfl,rfl⟩:=h.eX;exact .inl (.str _)
 |_=>cases hp
theorem x_{c:Cx}{w:Γ}{I:Bool->Nat->Prop}{v:V}{x:ο}(hp:plainCell v=true)(h:VR c v x):IR w I v x:=by
 cases v with
 |bool b=>rw[h.gO];exact .bool _
 |int k n=>rw[h.eG];exact .int _ _
 |str s=>obtain⟨b,rfl,rfl⟩:=h.eX;exact .str _
 |_=>cases hp
def uC(es:List (V × V)):Prop:=∀e∈es,(∃k,e.1=.str k)/\plainCell e.2=true
theorem Ea{es:List (V × V)}(h:Hp es=true):uC es:=by
 intro e he;simp only[Hp,eu]at h;have:=h e he;simp only[ak]at this;refine⟨?_,this.2⟩;cases hk:e.1 with
 |str k=>exact⟨k,rfl⟩
 |_=>rw[hk]at this;simp at this
theorem uC.strs{es:List (V × V)}(h:uC es):jK es:=λe he=>(h e he).1
theorem jE.copy{c c':Cx}{es:List (V × V)}{l:List ad}(ho:uC es)(h:jE c es l):jE c' es l:=by
 induction h with
 |nil=>exact .nil
 |cons k v es e l hk hv hr ih=>
  obtain⟨⟨s,rfl⟩,hp⟩:=ho _ (No ..);refine .cons _ _ _ _ _ ?_ (Qg hp hv) (ih λe he=>ho e (ae _ he));cases hk with | one hk=>
  exact .one (x_ (c:=c) rfl (.inl hk))
theorem jE.adt{c:Cx}{w:Γ}{I:Bool->Nat->Prop}{es:List (V × V)}{l:List ad}(ho:uC es)(h:jE c es l):sL w I es l:=by
 induction h with
 |nil=>exact .nil
 |cons k v es e l hk hv hr ih=>
  obtain⟨⟨s,rfl⟩,hp⟩:=ho _ (No ..);refine .cons _ _ _ _ _ ?_ (.one (x_ hp hv)) (ih λe he=>ho e (ae _ he));cases hk with | one hk=>
  exact .one (x_ (c:=c) rfl (.inl hk))
theorem jE.keys{c:Cx}{es:List (V × V)}{l:List ad}(ho:jK es)(h:jE c es l)(hn:(l.map (·.key)).Nodup):(es.map ks).Nodup:=by
 induction h with
 |nil=>simp
 |cons k v es e l hk hv hr ih=>
  obtain⟨s,hs⟩:=ho (k,v) (No ..);simp only at hs;subst hs;simp only[bj,dw]at hn ⊢;refine⟨λhm=>hn.1 ?_,ih (λe he=>ho e (ae _ he)) hn.2⟩;obtain⟨x,hx,hxk⟩:=cv.1 hm;obtain⟨b,hb,hbs⟩:=(sM.vr hk).eX
  have find:∀{es:List (V × V)}{l:List ad},jE c es l->x∈es->∃m∈l,sM c.w c.bE x.1 m.key:=by
   intro es l h
   induction h with
   |nil=>intro hx;cases hx
   |cons k' v' es e' l hk' hv' hr' ih'=>
    intro hx;rcases IN.1 hx with rfl | hx
    ·exact⟨e',No ..,hk'⟩
    ·obtain⟨m,h1,h2⟩:=ih' hx;exact⟨m,ae _ h1,h2⟩
  obtain⟨m,hm1,hm2⟩:=find hr hx;obtain⟨s',hs'⟩:=ho x (ae _ hx);rw[hs']at hm2;obtain⟨b',hb',hbs'⟩:=(sM.vr hm2).eX
  have e1:s'=s:=by
   have:ks x=s:=hxk;obtain⟨x1,x2⟩:=x;simp only at hs';subst hs';exact this
  subst e1;have:b'=b:=bytes_inj (by rw[hbs,hbs']);rw[hb];exact cv.2 ⟨m,hm1,by rw[hb',this]⟩
end
end
end Go.Ax
namespace Go.Ax
open Go Go.Proofs
section
theorem cH{E:Env}{t sz by_:Nat}{z:V}(h:E.ty t=some { kd:=.str,size:=sz,bytes:=by_,zero:=z }):dG E t=jZ:=by
 funext x y;unfold dG jZ;rw[h];cases x <;> first | rfl | (cases y <;> rfl)
def Ai:Code->Code
 | .seq _ (.block _ (.loop c))=>c
 |c=>c
section
variable {E:Env}{sz by_ sz9 by9:Nat}{zv z9:V}
theorem Qh{v:V}(h:plainCell v=true):fG v=true:=by cases v <;> first | rfl | cases h
theorem D_(hty:E.ty 109=some { kd:=.map 9 4,size:=sz,bytes:=by_,zero:=zv })(h9:E.ty 9=some { kd:=.str,size:=sz9,bytes:=by9,zero:=z9 })
  (n:Nat)(fr:Fr)(hn:fr.n=16)(b L:Nat)(hbL:b≠L)(h0:fr.get 0=some (.mp b))(h7:fr.get 7=some (.ref L 0))(Z:Sg)(left:List (V × V))(cur:Option (V × V))(es:List (V × V))(hL:Z[L]?=some (.tF left cur))(hb:Z[b]?=some (.map es))(Q:X->Fr->Sg->Prop)
  (hok:uC left)
  (h1:left=[]->∀fr,Q (.exit 0) fr Z)
  (h2:∀a e z,left=a++e::z->∃es',kX jZ e.1 e.2 es=some es'/\∀fr:Fr,fr.n=16->fr.get 0=some (.mp b)->fr.get 7=some (.ref L 0)->Q .normal fr ((Z.set L (.tF (a++z) (some e))).set b (.map es'))) :
  eV E (n+20) (Ai (aA qt).code) fr Z Q:=by
 simp only[aA,qt,ay,Ai]
 have hLs:∀o,(Z.set L o)[L]?=some o:=λo=>by
  have:=(AI.1 hL).1;simp[this]
 have hLb:∀o,(Z.set L o)[b]?=some (.map es):=λo=>by rw[aa (λe=>hbL e.symm)];exact hb
 simp only[eV,cV,eA,cE,Fq,aS,h7,hL,bf,true_and,cW,bN,lD,comp,aT,cZ,AV,dZ,ck,Fr.aJ,Fr.a_,hn,h0,bh,cm,
  δ,ε,da,b9,reduceCtorEq,hLs,hLb,mapUpdate,hty]
 refine⟨?_,?_⟩
 ·intro hl;exact h1 hl _
 ·intro a e z' hl;obtain⟨es',hm,hq⟩:=h2 a e z' hl;obtain⟨⟨k,hk⟩,hp⟩:=hok e (by rw[hl];simp);have hko:eH E 9 e.1=true:=by simp only[eH,h9,hk]
  have hvo:fG e.2=true:=Qh hp;rw[cH h9];simp only[hko,hvo,dm,j8,ai,b9,hm,ck];refine hq _ ?_ ?_ ?_ <;> simp only[Fr.aJ,Fr.a_,hn,h0,h7,δ,ε,da,b9,reduceCtorEq]
theorem PV(Z:Sg)(x y:O):(Z++[x]).set Z.length y=Z++[y]:=by simp
theorem Nr(Z:Sg)(x y:O){b:Nat}(h:b<Z.length):(Z++[x]).set b y=Z.set b y++[x]:=by rw[List.set_append_left _ _ h]
theorem Oo(hty:E.ty 109=some { kd:=.map 9 4,size:=sz,bytes:=by_,zero:=zv })(h9:E.ty 9=some { kd:=.str,size:=sz9,bytes:=by9,zero:=z9 })
  {es0 src:List (V × V)}(hs0:jK es0)(hn0:(es0.map ks).Nodup)(hsrc:uC src)(hns:(src.map ks).Nodup){b:Nat}{σ0:Sg}(hb:b<σ0.length) :
  ∀(m:Nat)(left p es:List (V × V)) (cur:Option (V × V)) (fr:Fr),left.length=m->(p++left).Perm src->lT es0 p=some es->fr.n=16->fr.get 0=some (.mp b)->fr.get 7=some (.ref σ0.length 0) ->
   eV E (m+21) (.loop (Ai (aA qt).code)) fr (σ0.set b (.map es)++[.tF left cur]) λx fr Z=>x=.exit 0/\∃es2 p2 cur2,p2.Perm src/\lT es0 p2=some es2/\Z=σ0.set b (.map es2)++[.tF [] cur2]:=by
 intro m
 induction m with
 |zero=>
  intro left p es cur fr hl hp he hn h0 h7;have:left=[]:=iu.1 hl;subst this;show eV E (20+1) _ _ _ _;rw[eV];refine D_ hty h9 0 fr hn b σ0.length (by omega) h0 h7 _ [] cur es (by simp) (by rw[au (by simpa using hb)];simp[hb]) _ (λe he=>by cases he) ?_ ?_
  ·intro _ fr';exact⟨rfl,es,p,cur,by simpa using hp,he,rfl⟩
  ·intro a e z h;simp at h
 |succ m ih=>
  intro left p es cur fr hl hp he hn h0 h7;show eV E ((m+1)+20+1) _ _ _ _;rw[eV];have hmem:∀e∈left,e∈src:=λe h=>hp.mem_iff.1 (jy _ h);refine D_ hty h9 (m+1) fr hn b σ0.length (by omega) h0 h7 _ left cur es (by simp) (by rw[au (by simpa using hb)];simp[hb]) _ (λe h=>hsrc e (hmem e h)) ?_ ?_
  ·intro h;rw[h]at hl;simp at hl
  ·intro a e z h;subst h
   have hp2:((p++[e])++(a++z)).Perm src:=by
    refine List.Perm.trans ?_ hp;rw[cw];exact qb p (by simpa using (jt (l₁:=a) (a:=e) (l₂:=z)).symm)
   have hpn:((p++[e]).map ks).Nodup:=by
    have:=(hp2.map ks).nodup_iff.2 hns;rw[gj]at this;exact(jx.1 this).1
   have hps:jK (p++[e]):=λx hx=>(hsrc x (hp2.mem_iff.1 (List.mem_append_left _ hx))).1;obtain⟨l2,g1,g2,g3,_⟩:=pY hps hpn hs0 hn0
   have WD:∀(p:List (V × V)) (es0 es:List (V × V)),lT es0 p=some es->lT es0 (p++[e])=kX jZ e.1 e.2 es:=by
    intro p
    induction p with
    |nil=>
     intro es0 es h;simp only[lT]at h;cases h;simp only[cz,lT];cases kX jZ e.1 e.2 es0 <;> rfl
    |cons x p ih=>
     intro es0 es h;simp only[lT]at h;simp only[ey,lT];split at h
     ·exact ih _ _ h
     ·cases h
   have hm:=WD p es0 es he;rw[g1]at hm;refine⟨l2,hm.symm,λfr' k1 k2 k3=>?_⟩;have:=ih (a++z) (p++[e]) l2 (some e) fr' (by simp at hl ⊢;omega) hp2 g1 k1 k2 k3
   have e1:((σ0.set b (O.map es)++[O.tF (a++e::z) cur]).set σ0.length (O.tF (a++z) (some e))).set b (O.map l2)=σ0.set b (O.map l2)++[O.tF (a++z) (some e)]:=by
    have h1:=PV (σ0.set b (.map es)) (O.tF (a++e::z) cur) (O.tF (a++z) (some e));rw[dy]at h1;rw[h1,Nr _ _ _ (by simpa using hb),List.set_set]
   rw[e1];exact this
theorem eM:∀(n:Nat) {c:Code}{fr:Fr}{Z:Sg}{Q Q':X->Fr->Sg->Prop},eV E n c fr Z Q->(∀x fr Z,Q x fr Z->Q' x fr Z)->eV E n c fr Z Q'
 |0,_,_,_,_,_,h,_=>by simp only[eV]at h
 |n+1,c,fr,Z,Q,Q',h,hq=>by
  have ops:∀(ops:Array cd)(l:List cd)(fr:Fr)(Z:Sg),cV E (ev E n) ops l fr Z (Q .normal)->cV E (ev E n) ops l fr Z (Q' .normal):=by
   intro ops l
   induction l with
   |nil=>intro fr Z h;exact hq _ _ _ h
   |cons o l ih=>
    intro fr Z h;simp only[cV]at h ⊢;split
    ·rename_i x hx;rw[hx]at h;simp only at h;refine⟨h.1,?_⟩;have h:=h.2;unfold Fq at h ⊢;split
     ·rename_i bb hbb;rw[hbb]at h;simp only at h;split
      ·rename_i lf cu hlf;rw[hlf]at h;exact⟨λe=>ih _ _ (h.1 e),λa e z e'=>ih _ _ (h.2 a e z e')⟩
      ·rename_i hne;split at h
       ·rename_i lf cu hlf;exact(hne _ _ hlf).elim
       ·exact h
     ·rename_i hne;split at h
      ·rename_i bb hbb;exact(hne _ hbb).elim
      ·exact h
    ·rename_i hx;rw[hx]at h;simp only at h;split
     ·rename_i fr' σ' hst;rw[hst]at h;exact ih _ _ h
     ·rename_i hst;rw[hst]at h;exact h
  cases c with
  |skip=>simp only[eV]at h ⊢;exact hq _ _ _ h
  |exit id=>simp only[eV]at h ⊢;exact hq _ _ _ h
  |ret=>simp only[eV]at h ⊢;exact hq _ _ _ h
  |seq a b=>
   rw[eV]at h ⊢;refine eM n h ?_;intro x fr Z hx;cases x with
   |normal=>exact eM n hx hq
   |exit id=>exact hq _ _ _ hx
   |ret=>exact hq _ _ _ hx
  |cond x y z=>
   simp only[eV]at h ⊢;split
   ·rename_i hc;rw[hc]at h;exact eM n h hq
   ·rename_i hc;rw[hc]at h;exact eM n h hq
   ·rename_i h1 h2;split at h
    ·rename_i hc;exact(h1 hc).elim
    ·rename_i hc;exact(h2 hc).elim
    ·exact h
  |block id a=>
   rw[eV]at h ⊢;refine eM n h ?_;intro x fr Z hx;cases x with
   |normal=>exact hq _ _ _ hx
   |exit id'=>
    simp only at hx ⊢;split
    ·rename_i e;rw[az e]at hx;exact hq _ _ _ hx
    ·rename_i e;rw[an e]at hx;exact hq _ _ _ hx
   |ret=>exact hq _ _ _ hx
  |loop a=>
   rw[eV]at h ⊢;refine eM n h ?_;intro x fr Z hx;cases x with
   |normal=>exact eM n hx hq
   |exit id=>exact hq _ _ _ hx
   |ret=>exact hq _ _ _ hx
  |region id ops' draw=>
   simp only[eV]at h ⊢;cases draw with
   |true=>
    simp only at h ⊢;split
    ·rename_i hd;rw[hd]at h;exact hq _ _ _ h
    ·rename_i hd;rw[hd]at h;exact h
   |false=>exact ops _ _ _ _ h
  |_=>simp only[eV]at h
def Eb:Code->Code
 | .seq r _=>r
 |c=>c
theorem Oq(hty:E.ty 109=some { kd:=.map 9 4,size:=sz,bytes:=by_,zero:=zv })(n:Nat){fr0:Fr}(hn:fr0.n=16){b:Nat}(h0:fr0.get 0=some (.mp b)){y:V}(h1:fr0.get 1=some y){src:List (V × V)}(hy:(∃g,y=.imp g src)\/(y=.cA/\src=[])){σ0:Sg}
  {Q:X->Fr->Sg->Prop}(hq:∀fr:Fr,fr.n=16->fr.get 0=some (.mp b)->fr.get 7=some (.ref σ0.length 0)->Q .normal fr (σ0++[.tF src none])):eV E (n+1) (Eb (aA qt).code) fr0 σ0 Q:=by
 simp only[aA,qt,ay,Eb];rcases hy with⟨g,rfl⟩ | ⟨rfl,rfl⟩
 ·simp only[eV,cV,eA,cE,aS,bf,cW,bN,lD,comp,aT,qA,ck,Fr.aJ,hn,h1,ε,da,hty];refine hq _ ?_ ?_ ?_ <;> simp only[Fr.aJ,Fr.a_,hn,h0,δ,ε,da,b9,bf,reduceCtorEq]
 ·simp only[eV,cV,eA,cE,aS,bf,cW,bN,lD,comp,aT,qA,ck,Fr.aJ,hn,h1,ε,da,hty];refine hq _ ?_ ?_ ?_ <;> simp only[Fr.aJ,Fr.a_,hn,h0,δ,ε,da,b9,bf,reduceCtorEq]
theorem Ji(hty:E.ty 109=some { kd:=.map 9 4,size:=sz,bytes:=by_,zero:=zv })(h9:E.ty 9=some { kd:=.str,size:=sz9,bytes:=by9,zero:=z9 })
  {es0 src:List (V × V)}(hs0:jK es0)(hn0:(es0.map ks).Nodup)(hsrc:uC src)(hns:(src.map ks).Nodup){b:Nat}{σ0:Sg}(hb:σ0[b]?=some (.map es0)){y:V}(hy:(∃g,y=.imp g src)\/(y=.cA/\src=[])) :
  Cw E (src.length+23) (aA qt) [.mp b,y] σ0 λv Z=>v=.fR []/\∃es2 p2 cur2,p2.Perm src/\lT es0 p2=some es2/\Z=σ0.set b (.map es2)++[.tF [] cur2]:=by
 have hbl:b<σ0.length:=(AI.1 hb).1
 have hset:σ0.set b (.map es0)=σ0:=by
  apply jw;intro j;by_cases e:b=j
  ·subst e;rw[hb];simp[hbl]
  ·rw[aa e]
 obtain⟨fr0,hfr0⟩:∃fr0,Fr.init (aA qt).ntmps [V.mp b,y]=some fr0:=⟨_,rfl⟩;have hn:fr0.n=16:=by injection hfr0 with h;rw[<- h];rfl
 have h0:fr0.get 0=some (.mp b):=by injection hfr0 with h;rw[<- h];rfl
 have h1:fr0.get 1=some y:=by injection hfr0 with h;rw[<- h];rfl
 refine⟨fr0,hfr0,?_⟩;show eV E ((src.length+22)+1) (.seq (Eb (aA qt).code) (.block 0 (.loop (Ai (aA qt).code)))) _ _ _;rw[eV];refine Oq hty (src.length+21) hn h0 h1 hy λfr k1 k2 k3=>?_;show eV E ((src.length+21)+1) _ _ _ _;rw[eV];have:=Oo hty h9 hs0 hn0 hsrc hns hbl (src.length) src [] es0 none fr rfl (by simp) rfl k1 k2 k3;rw[hset]at this;refine eM _ this ?_;rintro x fr' σ' ⟨rfl,es2,p2,cur2,g1,g2,g3⟩;simp only[bf];exact⟨by simp,[],rfl,rfl,es2,p2,cur2,g1,g2,g3⟩
end
theorem Rm{E:Env}(he:cG κ E)(hfs:f_ κ E)(hmix:Tryz.prog.follows .mixedOrders=true)(hF:E.fn 125=some (aA qt)){sz by_ sz9 by9:Nat}{zv z9:V}
  (hty:E.ty 109=some { kd:=.map 9 4,size:=sz,bytes:=by_,zero:=zv })(h9:E.ty 9=some { kd:=.str,size:=sz9,bytes:=by9,zero:=z9 }):iI κ E 125 MD:=by
 intro c vs xs v σ' hs hv h;unfold MD at h;split at h
 case h_2=>cases h
 rename_i b y;split at h
 case h_2=>cases h
 rename_i es0 src hob hent;split at h
 case h_2=>cases h
 rename_i l hok hne hput;injection h with h;injection h with e1 e2;subst e1 e2;simp only[ak]at hok;have ho0:=Ea hok.1;have ho1:=Ea hok.2;have hlv:live c.Z b:=⟨_,hob,rfl⟩;have hbl:=eC hlv;obtain⟨hs1,hx1⟩:=Cx.R_ hs b;have hob1:(c.aside b).Z[b]?=some (.map es0):=by rw[<- hob];exact yM
 obtain⟨en0,cl0,g1,g2,l0,g3,g4⟩:=hs.obj b _ hob;have hn0:(es0.map ks).Nodup:=g4.keys ho0.strs ((g3.map _).nodup_iff.2 g2.st.2.2);cases hv with | cons _ x _ xs hx hr=>
 cases hr with | cons _ yv _ ys hyv hr=>
 cases hr
 obtain⟨y',hy',hyv',hns⟩:∃y',((∃g,y'=.imp g src)\/(y'=.cA/\src=[]))/\VR (c.aside b) y' yv/\(src.map ks).Nodup:=by
  unfold bm at hent;split at hent
  ·injection hent with hent;subst hent;exact⟨.cA,.inr ⟨rfl,rfl⟩,hyv.mono hx1,by simp⟩
  ·rename_i g es;injection hent with hent;subst hent;obtain⟨blk,en,cl,l1,rfl,hi,hh,hm,hp,hmr⟩:=hyv.tN;exact⟨_,.inl ⟨g,rfl⟩,hyv.mono hx1,hmr.Qy.keys ho1.strs ((hp.map _).nodup_iff.2 hm.st.2.2)⟩
  ·rename_i b';split at hent
   ·rename_i es hob';injection hent with hent;subst hent;obtain⟨rfl,hb'⟩:=hyv.yC;obtain⟨en,cl,k1,k2,l1,k3,k4⟩:=hs.obj b' _ hob'
    have hne':b≠b':=by
     simp only[gu]at hne;exact Nat.ne_of_beq_eq_false hne
    refine⟨.imp false es,.inl ⟨false,rfl⟩,.inl (.imp false es _ en cl l1 ⟨jI k1,?_,λ_=>hs.nT b' ⟨_,hob',rfl⟩⟩ k1 k2 k3 (k4.adt ho1)),k4.keys ho1.strs ((k3.map _).nodup_iff.2 k2.st.2.2)⟩;rintro⟨j,hj,e⟩;obtain⟨rfl,_⟩:=l_ hj;exact hne' (hs.inj _ _ hlv ⟨_,hob',rfl⟩ e)
   ·cases hent
  ·cases hent
 refine rC hfs hF ?_;have hargs:fH (c.aside b) [.mp b,y'] [x,yv]:=.cons _ _ _ _ (hx.mono hx1) (.cons _ _ _ _ hyv' .nil);refine(xK he hfs hmix hF hs1 hargs (Ji hty h9 ho0.strs hn0 ho1 hns hob1 hy')).mono ?_;rintro e w' ⟨r,u,σ1,rfl,⟨rfl,es2,p2,cur2,q1,q2,q3⟩,c',rfl,hσ,hx',hs',hr'⟩;subst q3;refine⟨r,rfl,?_⟩;obtain⟨l2,q4,q5,q6,q7⟩:=pY (p:=p2) (λe he=>ho1.strs e (q1.mem_iff.1 he)) ((q1.map ks).nodup_iff.2 hns) ho0.strs hn0;rw[q2]at q4;injection q4 with q4;subst q4
 have ho2:uC es2:=λe he=>by
  rcases (q7 e).1 he with he | ⟨he,_⟩
  ·exact ho1 e (q1.mem_iff.1 he)
  ·exact ho0 e he
 have hperm:es2.Perm l:=Im q1 (λe he=>ho1.strs e (q1.mem_iff.1 he)) ((q1.map ks).nodup_iff.2 hns) ho0.strs hn0 q2 hput;have hlen1:(c.aside b).Z.length=c.Z.length:=pM _ _
 have hdob:c'.Z[b]?=some (.map es2):=by
  rw[hσ,au (by rw[dy,hlen1];exact hbl)];simp[hlen1,hbl]
 obtain⟨en,cl,k1,k2,l3,k3,k4⟩:=hs'.obj b _ hdob
 obtain⟨r1,r2⟩:=SR.restore (o:=.map l) (σ3:=c.Z.set b (.map l)++[.dead]) hs hlv hx' (by rw[hσ];simp[hlen1]) (λj hj hjb=>by
   rw[au (by simpa using hj),aa (λe=>hjb e.symm)]) (by
   rw[au (by simpa using hbl)];simp[hbl]) (λj o hj ho=>by
   rw[bg (by simpa using hj)]at ho;rcases Nat.eq_zero_or_pos (j-(c.Z.set b (.map l)).length) with h0 | h0
   ·rw[h0]at ho;simpa using ho.symm
   ·rw[ir (by simp at h0 ⊢;omega)]at ho;cases ho) (λ_=>by
   obtain⟨l4,m1,m2⟩:=k4.perm hperm;refine⟨en,cl,k1,k2,l4,m1.symm.trans k3,m2.copy λe he=>ho2 e (hperm.mem_iff.2 he)⟩) hs'.jF
 exact⟨{ c' with Z:=c.Z.set b (.map l)++[.dead] },rfl,rfl,r2,r1,by
  obtain⟨ys,rfl,hys⟩:=hr'.Gu;cases hys;exact .fR [] [] .nil⟩
end
end Go.Ax
namespace Go.Ax
open Go
theorem kT{a b:List Nat}:seq a b=true ↔ a=b:=by rw[seq_eq,af]
theorem kV{a b:List Nat}:seq a b=false ↔ a≠b:=by rw[seq_eq,decide_eq_false_iff_not]
theorem rU{s:List Nat}:∀{l:List (List Nat)},mem s l=true ↔ s∈l
 | []=>by simp[mem]
 |a::r=>by
  simp only[mem];cases h:seq a s with
  |true=>rw[kT]at h;simp[h]
  |false=>rw[kV]at h;simp[rU (l:=r),h.symm]
theorem Bj{m:List (List Nat)}:∀{l:List (List Nat)},Ge l m=true ↔ ∃a∈l,a∈m
 | []=>by simp[Ge]
 |a::r=>by
  simp only[Ge];cases h:mem a m with
  |true=>rw[rU]at h;simp[h]
  |false=>
   have:a ∉ m:=λg=>by rw[<- rU,h]at g;cases g
   simp[Bj (l:=r),this]
def SV(v:V)(l:List (List Nat)):Prop:=(v=.aG/\l=[])\/∃g full,v=.bV g (l.map λs=>[ab s]) full
def gQ(es:List (V × V)):Prop:=∀e∈es,(∃k,e.1=.str k)/\SV e.2 (jB e.2)
theorem J0:∀{xs:List (List V)},wD xs=true->xs=(nY xs).map λs=>[ab s]:=by
 intro xs
 fun_induction wD xs with
 |case1=>intro _;rfl
 |case2 s r ih=>intro h;simp only[nY,bj,<- ih h]
 |case3=>intro h;cases h
theorem yL{es:List (V × V)}:oO es=true->gQ es:=by
 fun_induction oO es with
 |case1=>intro _ e he;cases he
 |case2 k g xs f r h ih=>
  intro h' e he;rcases IN.1 he with rfl | he
  ·rw[ak]at h;exact⟨⟨k,rfl⟩,.inr ⟨g,f,by simp only[jB];rw[<- J0 h.1]⟩⟩
  ·exact ih h' e he
 |case3=>intro h;cases h
 |case4 k r ih=>
  intro h' e he;rcases IN.1 he with rfl | he
  ·exact⟨⟨k,rfl⟩,.inl ⟨rfl,rfl⟩⟩
  ·exact ih h' e he
 |case5=>intro h;cases h
theorem Ih:∀xs:List (List V),(nY xs).length<=xs.length:=by
 intro xs
 fun_induction nY xs with
 |case1 s r ih=>simp only[IT];omega
 |case2=>simp
theorem K0{es:List (V × V)}:oO es=true->∀e∈es,(jB e.2).length<=1000000:=by
 fun_induction oO es with
 |case1=>intro _ e he;cases he
 |case2 k g xs f r h ih=>
  intro h' e he;rcases IN.1 he with rfl | he
  ·rw[ak,Nat.ble_eq]at h;have:=Ih xs;simp only[jB];omega
  ·exact ih h' e he
 |case3=>intro h;cases h
 |case4 k r ih=>
  intro h' e he;rcases IN.1 he with rfl | he
  ·simp[jB]
  ·exact ih h' e he
 |case5=>intro h;cases h
theorem gQ.tail{e:V × V}{es:List (V × V)}(h:gQ (e::es)):gQ es:=λx hx=>h x (ae _ hx)
theorem KM{k:List Nat}{es:List (V × V)}:h_.hasKey k es=false->jK es->k ∉ es.map ks:=by
 fun_induction h_.hasKey k es with
 |case1=>intro _ _;simp
 |case2=>intro h;cases h
 |case3 k' v r h ih=>
  intro h' ha;rw[kV]at h;simp only[bj,IN,ql];exact⟨λe=>h (by rw[e];rfl),ih h' λe he=>ha e (ae _ he)⟩
 |case4 x r hx ih=>
  intro h' ha;obtain⟨q,hq⟩:=ha x (No ..);obtain⟨x1,x2⟩:=x;simp only at hq;subst hq;exact(hx _ _ rfl).elim
theorem EE{es:List (V × V)}:h_ es=true->jK es->(es.map ks).Nodup:=by
 fun_induction h_ es with
 |case1=>intro _ _;simp
 |case2=>intro h;cases h
 |case3 k v r h ih=>
  intro h' ha;have hr:jK r:=λe he=>ha e (ae _ he);simp only[bj,dw];exact⟨KM h hr,ih h' hr⟩
 |case4=>intro h;cases h
def valOf(es:List (V × V))(x:List Nat):V:=
 match es with
 |(.str k,v)::r=>match seq k x with
  |true=>v
  |false=>valOf r x
 |_::r=>valOf r x
 | []=>.aG
theorem yT{x:List Nat}:∀{es:List (V × V)},gQ es->SV (valOf es x) (cC es x)
 | [],_=>.inl ⟨rfl,rfl⟩
 |(k',v)::es,h=>by
  obtain⟨⟨k,hk⟩,hv⟩:=h _ (No ..);simp only at hk hv;subst hk;simp only[valOf,cC];cases seq k x with
  |true=>exact hv
  |false=>exact yT h.tail
theorem DV{x:List Nat}:∀{es:List (V × V)},gQ es->∃r,jA jZ (.str x) es=some r/\r.getD .aG=valOf es x
 | [],_=>⟨none,rfl,rfl⟩
 |(k',v)::es,h=>by
  obtain⟨⟨k,hk⟩,hv⟩:=h _ (No ..);simp only at hk hv;subst hk
  have e:jZ (.str x) (.str k)=some (seq k x):=by
   simp only[jZ,seq_eq];exact b8 some (pc.2 ⟨λh=>h.symm,λh=>h.symm⟩)
  simp only[jA,e,valOf];cases seq k x with
  |true=>exact⟨some v,rfl,rfl⟩
  |false=>exact DV h.tail
theorem yB{es:List (V × V)}(h:gQ es)(hn:(es.map ks).Nodup){k:List Nat}{v:V}(he:(ab k,v)∈es):cC es k=jB v:=by
 induction es with
 |nil=>cases he
 |cons e es ih=>
  obtain⟨k',v'⟩:=e;obtain⟨⟨q,hq⟩,_⟩:=h _ (No ..);simp only at hq;subst hq;simp only[bj,dw]at hn;simp only[cC];rcases IN.1 he with he | he
  ·injection he with h1 h2;injection h1 with h1;subst h1 h2;rw[show seq k k=true from kT.2 rfl]
  ·have:q≠k:=λe=>hn.1 (by rw[show ks (ab q,v')=q from rfl,e];exact cv.2 ⟨_,he,rfl⟩);rw[show seq q k=false from kV.2 this];exact ih h.tail hn.2 he
theorem Dg{es:List (V × V)}(h:gQ es){x nx:List Nat}(hx:nx∈cC es x):∃v,(ab x,v)∈es/\nx∈jB v:=by
 induction es with
 |nil=>cases hx
 |cons e es ih=>
  obtain⟨k',v'⟩:=e;obtain⟨⟨q,hq⟩,_⟩:=h _ (No ..);simp only at hq;subst hq;simp only[cC]at hx;cases hs:seq q x with
  |true=>
   rw[hs]at hx;rw[kT]at hs;subst hs;exact⟨v',No ..,hx⟩
  |false=>
   rw[hs]at hx;obtain⟨v,h1,h2⟩:=ih h.tail hx;exact⟨v,ae _ h1,h2⟩
inductive EP (es:List (V × V)) (f:List Nat):Nat->List Nat->Prop
 |zero:EP es f 0 f
 |succ {k:Nat}{x nx:List Nat}(h:nx∈cC es x)(hr:EP es f k nx):EP es f (k+1) x
theorem NQ{es:List (V × V)}(h:gQ es)(hn:(es.map ks).Nodup){m:List (List Nat)}{x:List Nat}:x∈xI m es ↔ ∃nx∈cC es x,nx∈m:=by
 have key:∀{l:List (V × V)},gQ l->(x∈xI m l ↔ ∃v,(ab x,v)∈l/\∃nx∈jB v,nx∈m):=by
  intro l
  induction l with
  |nil=>intro _;simp[xI]
  |cons e l ih=>
   intro h;obtain⟨k',v'⟩:=e;obtain⟨⟨q,hq⟩,_⟩:=h _ (No ..);simp only at hq;subst hq;simp only[xI];have ih:=ih h.tail;cases ha:Ge (jB v') m with
   |true=>
    rw[Bj]at ha;simp only[IN,ih];constructor
    ·rintro (rfl | ⟨v,h1,h2⟩)
     ·exact⟨v',.inl rfl,ha⟩
     ·exact⟨v,.inr h1,h2⟩
    ·rintro⟨v,h1 | h1,h2⟩
     ·injection h1 with h1 _;injection h1 with h1;exact .inl h1
     ·exact .inr ⟨v,h1,h2⟩
   |false=>
    have hna:¬ ∃a∈jB v',a∈m:=λg=>by rw[<- Bj,ha]at g;cases g
    rw[ih];constructor
    ·rintro⟨v,h1,h2⟩;exact⟨v,ae _ h1,h2⟩
    ·rintro⟨v,h1,h2⟩;rcases IN.1 h1 with h1 | h1
     ·injection h1 with _ h1;subst h1;exact absurd h2 hna
     ·exact⟨v,h1,h2⟩
 rw[key h];constructor
 ·rintro⟨v,h1,nx,h2,h3⟩;exact⟨nx,by rw[yB h hn h1];exact h2,h3⟩
 ·rintro⟨nx,h1,h2⟩;obtain⟨v,h3,h4⟩:=Dg h h1;exact⟨v,h3,nx,h4,h2⟩
theorem yG{es:List (V × V)}:∀(n:Nat)(m:List (List Nat)),(d_ es n m).length=n+1/\(d_ es n m)[0]?=some m/\∀j l,(d_ es n m)[j]?=some l->j<n->(d_ es n m)[j+1]?=some (xI l es)
 |0,m=>⟨rfl,rfl,λj l h hj=>by omega⟩
 |n+1,m=>by
  obtain⟨h1,h2,h3⟩:=yG (es:=es) n (xI m es);refine⟨by simp[d_,h1],rfl,λj l h hj=>?_⟩;cases j with
  |zero=>
   simp only[d_,bh]at h;cases h;simpa [d_]using h2
  |succ j=>
   simp only[d_,cm]at h ⊢;exact h3 j l h (by omega)
theorem qD{es:List (V × V)}(h:gQ es)(hn:(es.map ks).Nodup)(f:List Nat)(n:Nat):∀(j:Nat)(l:List (List Nat)),(d_ es n [f])[j]?=some l->∀x,x∈l ↔ EP es f j x:=by
 intro j;obtain⟨h1,h2,h3⟩:=yG (es:=es) n [f]
 induction j with
 |zero=>
  intro l hl x;rw[h2]at hl;cases hl;simp only[cj];constructor
  ·rintro rfl;exact .zero
  ·intro hr;cases hr;rfl
 |succ j ih=>
  intro l hl x;have hj:j+1<n+1:=by rw[<- h1];exact(AI.1 hl).1
  obtain⟨l0,hl0⟩:∃l0,(d_ es n [f])[j]?=some l0:=⟨_,AT (by omega)⟩;rw[h3 j l0 hl0 (by omega)]at hl;cases hl;rw[NQ h hn];constructor
  ·rintro⟨nx,g1,g2⟩;exact .succ g1 ((ih l0 hl0 nx).1 g2)
  ·intro hr;cases hr with | succ g1 g2=>exact⟨_,g1,(ih l0 hl0 _).2 g2⟩
theorem vU{s:List Nat}:∀{L:List (List (List Nat))}{k:Nat},gE s L=some k->(∃l,L[k]?=some l/\s∈l)/\∀j l,j<k->L[j]?=some l->s ∉ l
 | [],_,h=>by cases h
 |m::L,k,h=>by
  simp only[gE]at h;cases hm:mem s m with
  |true=>
   rw[hm]at h;cases h;exact⟨⟨m,rfl,rU.1 hm⟩,λj l hj=>by omega⟩
  |false=>
   rw[hm]at h;have hne:s ∉ m:=λg=>by rw[<- rU,hm]at g;cases g
   cases hd:gE s L with
   |none=>rw[hd]at h;cases h
   |some k'=>
    rw[hd]at h;cases h;obtain⟨⟨l,h1,h2⟩,h3⟩:=vU hd;refine⟨⟨l,by simpa using h1,h2⟩,λj l hj hl=>?_⟩;cases j with
    |zero=>simp at hl;subst hl;exact hne
    |succ j=>exact h3 j l (by omega) (by simpa using hl)
theorem BS{s:List Nat}:∀{L:List (List (List Nat))},gE s L=none->∀l∈L,s ∉ l
 | [],_,l,hl=>by cases hl
 |m::L,h,l,hl=>by
  simp only[gE]at h;cases hm:mem s m with
  |true=>rw[hm]at h;cases h
  |false=>
   rw[hm]at h;have hne:s ∉ m:=λg=>by rw[<- rU,hm]at g;cases g
   cases hd:gE s L with
   |some k'=>rw[hd]at h;cases h
   |none=>
    rcases IN.1 hl with rfl | hl
    ·exact hne
    ·exact BS hd l hl
def uK(es:List (V × V))(f x:List Nat):Option Nat:=gE x (d_ es es.length [f])
theorem lY{es:List (V × V)}(h:gQ es)(hn:(es.map ks).Nodup){f x:List Nat}{k:Nat}:uK es f x=some k ↔ k<=es.length/\EP es f k x/\∀j,j<k->¬ EP es f j x:=by
 obtain⟨h1,h2,h3⟩:=yG (es:=es) es.length [f];have get:∀j,j<=es.length->∃l,(d_ es es.length [f])[j]?=some l:=λj hj=>⟨_,AT (by omega)⟩;constructor
 ·intro hd;obtain⟨⟨l,g1,g2⟩,g3⟩:=vU hd;have hk:k<es.length+1:=by rw[<- h1];exact(AI.1 g1).1
  refine⟨by omega,(qD h hn f _ k l g1 x).1 g2,λj hj hr=>?_⟩;obtain⟨l',hl'⟩:=get j (by omega);exact g3 j l' hj hl' ((qD h hn f _ j l' hl' x).2 hr)
 ·rintro⟨hk,hr,hmin⟩;obtain⟨l,hl⟩:=get k hk;cases hd:uK es f x with
  |none=>exact absurd ((qD h hn f _ k l hl x).2 hr) (BS hd l (ag hl))
  |some k'=>
   obtain⟨⟨l',g1,g2⟩,g3⟩:=vU hd;have hr':=(qD h hn f _ k' l' g1 x).1 g2;rcases jn k k' with c | c | c
   ·exact absurd ((qD h hn f _ k l hl x).2 hr) (g3 k l c hl)
   ·rw[c]
   ·exact absurd hr' (hmin k' c)
def nJ(fe:List (V × V)):Prop:=∀e∈fe,∃(k:List Nat) (n:Nat),e=(.str k,.int .i64 (n:Int))
def bC:List (V × V)->List Nat->Option Nat
 |(.str k,.int _ n)::r,x=>match seq k x with
  |true=>some n.toNat
  |false=>bC r x
 |_::r,x=>bC r x
 | [],_=>none
theorem nJ.tail{e:V × V}{es:List (V × V)}(h:nJ (e::es)):nJ es:=λx hx=>h x (ae _ hx)
theorem nJ.strs{fe:List (V × V)}(h:nJ fe):jK fe:=λe he=>by obtain⟨k,n,rfl⟩:=h e he;exact⟨k,rfl⟩
theorem vR{x:List Nat}:∀{fe:List (V × V)},nJ fe->jA jZ (.str x) fe=some (Option.map (λn:Nat=>V.int .i64 (n:Int)) (bC fe x))
 | [],_=>rfl
 |e::fe,h=>by
  obtain⟨k,n,rfl⟩:=h e (No ..)
  have e:jZ (.str x) (.str k)=some (seq k x):=by
   simp only[jZ,seq_eq];exact b8 some (pc.2 ⟨λh=>h.symm,λh=>h.symm⟩)
  simp only[jA,e,bC];cases seq k x with
  |true=>rfl
  |false=>exact vR h.tail
theorem MM{x:List Nat}:∀{fe:List (V × V)},nJ fe->((bC fe x).isSome=true ↔ x∈fe.map ks)
 | [],_=>by simp[bC]
 |e::fe,h=>by
  obtain⟨k,n,rfl⟩:=h e (No ..);simp only[bC,bj,IN];cases hs:seq k x with
  |true=>rw[kT]at hs;simp[hs,ks]
  |false=>
   rw[kV]at hs;simp only;rw[MM h.tail];simp only[ks];exact⟨.inr,λg=>g.resolve_left λe=>hs e.symm⟩
theorem Cu{x:List Nat}{m:Nat}:∀{fe:List (V × V)},nJ fe->∃fe',kX jZ (.str x) (.int .i64 (m:Int)) fe=some fe'/\nJ fe'/\(∀y,bC fe' y=if y=x then some m else bC fe y) /\
  fe'.map ks=(if x∈fe.map ks then fe.map ks else fe.map ks++[x])
 | [],_=>⟨[(.str x,.int .i64 (m:Int))],rfl,λe he=>by simp at he;subst he;exact⟨x,m,rfl⟩,λy=>by
   simp only[bC];cases hs:seq x y with
   |true=>rw[kT]at hs;simp[hs]
   |false=>rw[kV]at hs;simp[hs.symm],by simp[ks]⟩
 |e::fe,h=>by
  obtain⟨k,n,rfl⟩:=h e (No ..)
  have e:jZ (.str x) (.str k)=some (seq k x):=by
   simp only[jZ,seq_eq];exact b8 some (pc.2 ⟨λh=>h.symm,λh=>h.symm⟩)
  cases hs:seq k x with
  |true=>
   rw[hs]at e;rw[kT]at hs;subst hs;refine⟨(.str k,.int .i64 (m:Int))::fe,by simp only[kX,e],λe he=>?_,λy=>?_,by simp[ks]⟩
   ·rcases IN.1 he with rfl | he
    ·exact⟨k,m,rfl⟩
    ·exact h.tail e he
   ·simp only[bC];cases hs:seq k y with
    |true=>rw[kT]at hs;simp[hs]
    |false=>rw[kV]at hs;simp[hs.symm]
  |false=>
   rw[hs]at e;rw[kV]at hs;obtain⟨fe',h1,h2,h3,h4⟩:=Cu (x:=x) (m:=m) h.tail;refine⟨(.str k,.int .i64 (n:Int))::fe',by simp only[kX,e,h1],λe he=>?_,λy=>?_,?_⟩
   ·rcases IN.1 he with rfl | he
    ·exact⟨k,n,rfl⟩
    ·exact h2 e he
   ·simp only[bC];cases hk:seq k y with
    |true=>rw[kT]at hk;subst hk;simp[hs]
    |false=>simp only[h3]
   ·simp only[bj,h4,ks,IN,hs.symm,false_or];split <;> simp
theorem AX:∀{a b:List (List Nat)},a.Nodup->(∀x∈a,x∈b)->a.length<=b.length
 | [],_,_,_=>by simp
 |x::a,b,hn,hs=>by
  rw[dw]at hn;have hx:x∈b:=hs x (No ..)
  have:=AX (a:=a) (b:=b.erase x) hn.2 λy hy=>by
   have hne:y≠x:=λe=>hn.1 (by rw[<- e];exact hy);exact(List.mem_erase_of_ne hne).2 (hs y (ae _ hy))
  rw[List.length_erase_of_mem hx]at this;have hb:0<b.length:=List.length_pos_of_mem hx;simp only[IT];omega
structure HC (es:List (V × V)) (f:List Nat) (fe:List (V × V)):Prop where
 ok:nJ fe
 zero:bC fe f=some 0
 rch:∀x k,bC fe x=some k->EP es f k x
 bound:∀x k,bC fe x=some k->k+1<=fe.length
 nodup:(fe.map ks).Nodup
 keys:∀k∈fe.map ks,k∈f::es.map ks
theorem HC.len{es fe:List (V × V)}{f:List Nat}(h:HC es f fe):fe.length<=es.length+1:=by
 have:=AX h.nodup h.keys;simpa using this
theorem HC.lt{es fe:List (V × V)}{f:List Nat}(h:HC es f fe){x:List Nat}{k:Nat}(hx:bC fe x=some k):k<=es.length:=by
 have:=h.bound x k hx;have:=h.len;omega
def NB(es:List (V × V))(f:List Nat)(fe:List (V × V)):Nat:=((f::es.map ks).map λx=>(bC fe x).getD (es.length+2)).sum
theorem Pj{g h:List Nat->Nat}:∀{l:List (List Nat)},(∀x,g x<=h x)->(∃x∈l,g x<h x)->(l.map g).sum<(l.map h).sum
 | [],_,⟨_,hx,_⟩=>by cases hx
 |a::l,hle,⟨x,hx,hlt⟩=>by
  have rest:∀l:List (List Nat),(l.map g).sum<=(l.map h).sum:=by
   intro l
   induction l with
   |nil=>simp
   |cons b l ih=>have:=hle b;simp only[bj,List.sum_cons];omega
  simp only[bj,List.sum_cons];rcases IN.1 hx with rfl | hx
  ·have:=rest l;omega
  ·have:=Pj hle ⟨x,hx,hlt⟩;have:=hle a;omega
theorem HC.ZD{es fe:List (V × V)}{f name nx:List Nat}(h:HC es f fe)(hn:nx∈cC es name)(hk:name∈es.map ks){d:Nat}(hd:bC fe nx=some d)(hw:∀w,bC fe name=some w->d+1<w)
  {fe':List (V × V)}(hp:kX jZ (.str name) (.int .i64 ((d+1:Nat):Int)) fe=some fe'):HC es f fe'/\NB es f fe'<NB es f fe:=by
 obtain⟨fe2,h1,h2,h3,h4⟩:=Cu (x:=name) (m:=d+1) h.ok;rw[hp]at h1;cases h1
 have hnf:name≠f:=λe=>by
  subst e;have:=hw 0 h.zero;omega
 have hb:=h.bound nx d hd
 have hlen:fe'.length=if name∈fe.map ks then fe.length else fe.length+1:=by
  have:=b8 df h4;rw[bw]at this;rw[this];split <;> simp
 have hle:fe.length<=fe'.length:=by rw[hlen];split <;> omega
 refine⟨⟨h2,by rw[h3,an hnf.symm];exact h.zero,λx k hx=>?_,λx k hx=>?_,?_,?_⟩,?_⟩
 ·rw[h3]at hx;split at hx
  ·rename_i e;injection hx with hx;subst hx e;exact .succ hn (h.rch nx d hd)
  ·exact h.rch x k hx
 ·rw[h3]at hx;split at hx
  ·rename_i e;injection hx with hx;subst hx e;rw[hlen];split
   ·rename_i hm;obtain⟨w,hw'⟩:=ji.1 ((MM h.ok).2 hm);have:=hw w hw';have:=h.bound _ w hw';omega
   ·omega
  ·have:=h.bound x k hx;omega
 ·rw[h4];split
  ·exact h.nodup
  ·rename_i hm;rw[jx];refine⟨h.nodup,by simp,λa ha b hb e=>?_⟩;simp only[cj]at hb;subst hb e;exact hm ha
 ·rw[h4];split
  ·exact h.keys
  ·intro k hk';rcases cq.1 hk' with hk' | hk'
   ·exact h.keys k hk'
   ·simp only[cj]at hk';subst hk';exact ae _ hk
 ·unfold NB;have hl:=h.len;refine Pj (λx=>?_) ⟨name,ae _ hk,?_⟩
  ·rw[h3];split
   ·rename_i e;subst e;simp only[ay];cases hx:bC fe x with
    |none=>simp only[Option.getD_none];omega
    |some w=>have:=hw w hx;simp only[ay];omega
   ·exact OF _
  ·rw[h3,az rfl];simp only[ay];cases hx:bC fe name with
   |none=>simp only[Option.getD_none];omega
   |some w=>have:=hw w hx;simp only[ay];omega
def wX(fe:List (V × V))(x nx:List Nat):Prop:=∀d,bC fe nx=some d->∃w,bC fe x=some w/\w<=d+1
theorem HC.dist{es fe:List (V × V)}{f:List Nat}(hb:gQ es)(hn:(es.map ks).Nodup)(h:HC es f fe)(hc:∀x nx,nx∈cC es x->wX fe x nx)(x:List Nat):uK es f x=bC fe x:=by
 have reach:∀k x,EP es f k x->∃w,bC fe x=some w/\w<=k:=by
  intro k x hr
  induction hr with
  |zero=>exact⟨0,h.zero,OF _⟩
  |succ g _ ih=>
   obtain⟨w,h1,h2⟩:=ih;obtain⟨w',h3,h4⟩:=hc _ _ g w h1;exact⟨w',h3,by omega⟩
 cases hx:bC fe x with
 |some w=>
  rw[lY hb hn];refine⟨h.lt hx,h.rch x w hx,λj hj hr=>?_⟩;obtain⟨w',h1,h2⟩:=reach j x hr;rw[hx]at h1;injection h1 with h1;omega
 |none=>
  cases hd:uK es f x with
  |none=>rfl
  |some k=>
   obtain⟨_,hr,_⟩:=(lY hb hn).1 hd;obtain⟨w,h1,_⟩:=reach k x hr;rw[hx]at h1;cases h1
theorem Oj{es:List (V × V)}(hb:gQ es)(hn:(es.map ks).Nodup){f x:List Nat}{k:Nat}(h:uK es f x=some (k+1)):∃nx∈cC es x,uK es f nx=some k:=by
 obtain⟨h1,h2,h3⟩:=(lY hb hn).1 h;cases h2 with | succ g hr=>
 refine⟨_,g,(lY hb hn).2 ⟨by omega,hr,λj hj hj'=>?_⟩⟩;exact h3 (j+1) (by omega) (.succ g hj')
def eS(d:List Nat->Option Nat)(acc:Option Nat)(a:List Nat):Option Nat:=
 match d a,acc with
 |none,acc=>acc
 |some k,none=>some k
 |some k,some b=>if k<b then some k else some b
def comb:Option Nat->Option Nat->Option Nat
 |none,e=>e
 |some b,none=>some b
 |some b,some e=>if e<b then some e else some b
theorem F8(L:List (List (List Nat))):∀(l:List (List Nat)) (acc:Option Nat),l.foldl (eS λx=>gE x L) acc=comb acc (jD L l)
 | [],acc=>by cases acc <;> rfl
 |a::l,acc=>by
  simp only[jh,F8 L l,jD];cases hd:gE a L with
  |none=>simp only[eS,hd]
  |some d=>
   cases hb:jD L l with
   |none=>
    cases acc with
    |none=>simp[eS,hd,comb]
    |some b=>by_cases h:d<b <;> simp[eS,hd,comb,h]
   |some e=>
    cases hbl:Nat.blt e d with
    |true=>
     have h2:e<d:=by rw[<- oh];exact hbl
     cases acc with
     |none=>simp[eS,hd,comb,h2,hbl]
     |some b=>by_cases h1:d<b <;> by_cases h3:e<b <;> simp[eS,hd,comb,h1,h2,h3,hbl] <;> omega
    |false=>
     have h2:¬ e<d:=λh=>by rw[<- oh,hbl]at h;cases h
     cases acc with
     |none=>simp[eS,hd,comb,h2,hbl]
     |some b=>by_cases h1:d<b <;> by_cases h3:e<b <;> simp[eS,hd,comb,h1,h2,h3,hbl] <;> omega
theorem Am(L:List (List (List Nat))):∀(l:List (List Nat)) (b:Nat),jD L l=some b->∃a∈l,gE a L=some b
 | [],b,h=>by cases h
 |a::l,b,h=>by
  simp only[jD]at h;cases hd:gE a L with
  |none=>
   rw[hd]at h;obtain⟨x,h1,h2⟩:=Am L l b h;exact⟨x,ae _ h1,h2⟩
  |some d=>
   rw[hd]at h;cases hb:jD L l with
   |none=>rw[hb]at h;injection h with h;subst h;exact⟨a,No ..,hd⟩
   |some e=>
    rw[hb]at h;simp only at h;split at h
    ·injection h with h;subst h;obtain⟨x,h1,h2⟩:=Am L l e hb;exact⟨x,ae _ h1,h2⟩
    ·injection h with h;subst h;exact⟨a,No ..,hd⟩
theorem Bt(L:List (List (List Nat)))(b:Nat):∀(l:List (List Nat)),(∃a∈l,gE a L=some b)->∃(i:Nat) (a:List Nat),l[i]?=some a/\stepOf L b l=some a/\gE a L=some b/\∀j x,j<i->l[j]?=some x->gE x L≠some b
 | [],⟨_,h,_⟩=>by cases h
 |a::l,⟨x,hx,hd⟩=>by
  by_cases ha:gE a L=some b
  ·exact⟨0,a,rfl,by simp only[stepOf,ha,Nat.beq_refl],ha,λj x hj=>by omega⟩
  ·have hx':x∈l:=by
    rcases IN.1 hx with rfl | hx
    ·exact absurd hd ha
    ·exact hx
   obtain⟨i,y,h1,h2,h3,h4⟩:=Bt L b l ⟨x,hx',hd⟩;refine⟨i+1,y,by simpa using h1,?_,h3,λj z hj hz=>?_⟩
   ·simp only[stepOf];cases hda:gE a L with
    |none=>exact h2
    |some d=>
     have hne:d≠b:=λe=>ha (by rw[hda,e]);cases hbq:Nat.beq d b with
     |true=>exact absurd (jb hbq) hne
     |false=>simp only[hbq];exact h2
   ·cases j with
    |zero=>simp at hz;subst hz;exact ha
    |succ j=>exact h4 j z (by omega) (by simpa using hz)
end Go.Ax
namespace Go.Ax
open Go Go.Proofs
section
def Cm:List Nat->Code->Code
 | [],c=>c
 |0::p,.seq a _=>Cm p a
 |1::p,.seq _ b=>Cm p b
 |2::p,.block _ c=>Cm p c
 |2::p,.loop c=>Cm p c
 |_,c=>c
noncomputable def bk (p:List Nat):Code:=Cm p (aA eh).code
section
variable {E:Env}
theorem U_{d:Nat}(h:d<=4000000000000000000):wr .i64 (Ld (d:Int) 1)=((d+1:Nat):Int):=by
 rw[HA,Bq];have e:(2:Int) ^ IntKind.i64.bits=18446744073709551616:=by decide
 have e2:(2:Int) ^ (IntKind.i64.bits-1)=9223372036854775808:=by decide
 have e3:IntKind.i64.signed=true:=rfl;unfold IntKind.wrap;simp only[e,e2,e3,jd,af];split <;> omega
theorem D7(h196:E.ty 209=some { kd:=.map 9 3,size:=1,bytes:=8,zero:=.cA })(h111:E.ty 107=some { kd:=.map 9 24,size:=1,bytes:=8,zero:=.cA })(h44:E.ty 24=some { kd:=.sl 9,size:=1,bytes:=24,zero:=.aG })
  (h9:E.ty 9=some { kd:=.str,size:=1,bytes:=16,zero:=.str [] })(h3:E.ty 3=some { kd:=.int .i64,size:=1,bytes:=8,zero:=.int .i64 0 })(h4:E.ty 4=some { kd:=.bool,size:=1,bytes:=1,zero:=.bool false })
  (n:Nat)(fr:Fr)(hn:fr.n=119){lv:V}{l:List (List Nat)}(hl:SV lv l){i:Nat}(g34:fr.get 34=some lv)(g35:fr.get 35=some (.int .i64 (l.length:Int)))(g36:fr.get 36=some (.int .i64 (i:Int))){name:List Nat}(g7:fr.get 7=some (.str name)){tb:Bool}(g6:fr.get 6=some (.bool tb))(g5:fr.get 5=some (.ref 1 0))
  {fe:List (V × V)}(hok:nJ fe)(hsm:∀x k,bC fe x=some k->k<=1000000)(hlen:l.length<=4000000000000000000){its:Sg}{Q:X->Fr->Sg->Prop}
  (q0:i=l.length->∀fr':Fr,fr'.n=119->(∀t,t≠37->fr'.get t=fr.get t)->Q (.exit 4) fr' (.map fe::.cells 209 [.mp 0] true::its))
  (q1:∀nx,l[i]?=some nx->((∀d,bC fe nx=some d->∃w,bC fe name=some w/\w<=d+1)->∀fr':Fr,fr'.n=119->fr'.get 36=some (.int .i64 ((i+1:Nat):Int))->(∀t,t<10\/t=28\/t=34\/t=35->fr'.get t=fr.get t)->Q .normal fr' (.map fe::.cells 209 [.mp 0] true::its)) /\
   ∀d,bC fe nx=some d->(∀w,bC fe name=some w->d+1<w)->∀fe',kX jZ (.str name) (.int .i64 ((d+1:Nat):Int)) fe=some fe'->∀fr':Fr,fr'.n=119->fr'.get 36=some (.int .i64 ((i+1:Nat):Int))->fr'.get 6=some (.bool true)->(∀t,t<10/\t≠6\/t=28\/t=34\/t=35->fr'.get t=fr.get t)->Q .normal fr' (.map fe'::.cells 209 [.mp 0] true::its))
  (hi:i<=l.length):eV E (n+20) (bk [1,1,0,1,2,2,1,2,1,1,2,2,1,1,2,1,1,2,2]) fr (.map fe::.cells 209 [.mp 0] true::its) Q:=by
 simp only[bk,Cm,aA,eh,ay];by_cases hil:i=l.length
 ·have hlt:decide ((i:Int)<(l.length:Int))=false:=AS (by omega);simp only[fC,fU,dA,fD,dB,dI,cV,eA,cE,yielded,aS,ofValue,bI,bf,cW,bN,lD,comp,aT,cZ,dZ,eB,iS,eY,oQ,kH,cB,ck,gh,Fr.aJ,hn,bh,cm,cn,δ,ε,da,b9,h196,h9,h3,loadAt,isAgg,lookup,eH,bm,cH h9,bin,arith,unop,mapUpdate,fG,V.aZ,ai,jH,gp,g35,g36,hlt];refine q0 hil _ (by simp only[Fr.a_,hn]) λt ht=>by simp only[Fr.aJ,ht,false_and,b9]
 ·obtain⟨nx,hnx⟩:∃nx,l[i]?=some nx:=⟨_,AT (by omega)⟩;have hlt:decide ((i:Int)<(l.length:Int))=true:=BY (by omega)
  obtain⟨g,full,rfl⟩:∃g full,lv=.bV g (l.map λs=>[ab s]) full:=by
   rcases hl with⟨_,rfl⟩ | h
   ·simp at hnx
   ·exact h
  have hrow:(l.map λs=>[ab s])[i]?=some [ab nx]:=by simp[hnx]
  have hidx:indexAddr E 24 (.bV g (l.map λs=>[ab s]) full) (.int .i64 (i:Int))=some (.cR g [.str nx]):=by
   simp only[indexAddr,h44,h9];rw[an (by omega),dx,hrow];simp
  obtain⟨q1a,q1b⟩:=q1 nx hnx;have hadd:wr .i64 (Ld (i:Int) 1)=((i+1:Nat):Int):=U_ (by omega);have fnx:=vR (x:=nx) hok;have fnm:=vR (x:=name) hok;cases hd:bC fe nx with
  |none=>
   rw[hd]at fnx;cases hw:bC fe name with
   |none=>
    rw[hw]at fnm;simp only[fC,fU,dA,fD,dB,dI,cV,eA,cE,yielded,aS,ofValue,bI,bf,cW,bN,lD,comp,aT,cZ,dZ,eB,iS,eY,oQ,kH,cB,ck,gh,rj,Fr.aJ,Fr.a_,hn,bh,cm,cn,δ,ε,da,b9,reduceCtorEq,h196,h9,h3,loadAt,isAgg,lookup,eH,bm,cH h9,bin,arith,unop,mapUpdate,fG,V.aZ,dm,ai,ja,j7,j6,jH,gp,g34,g35,g36,g5,g7,hlt,hidx,fnx,fnm,hadd];refine q1a (λd h=>by rw[hd]at h;cases h) _ ?_ ?_ ?_
    ·simp only[Fr.a_,hn]
    ·simp only[Fr.aJ,Fr.a_,hn,ε,da,bf]
    ·intro t ht;have:t<10\/t=28\/t=34\/t=35:=ht;simp only[Fr.aJ]
     repeat (rw[an (by omega)])
   |some w=>
    rw[hw]at fnm;simp only[fC,fU,dA,fD,dB,dI,cV,eA,cE,yielded,aS,ofValue,bI,bf,cW,bN,lD,comp,aT,cZ,dZ,eB,iS,eY,oQ,kH,cB,ck,gh,rj,Fr.aJ,Fr.a_,hn,bh,cm,cn,δ,ε,da,b9,reduceCtorEq,h196,h9,h3,loadAt,isAgg,lookup,eH,bm,cH h9,bin,arith,unop,mapUpdate,fG,V.aZ,dm,ai,gw,ja,j7,j6,jH,gp,g34,g35,g36,g5,g7,hlt,hidx,fnx,fnm,hadd];refine q1a (λd h=>by rw[hd]at h;cases h) _ ?_ ?_ ?_
    ·simp only[Fr.a_,hn]
    ·simp only[Fr.aJ,Fr.a_,hn,ε,da,bf]
    ·intro t ht;simp only[Fr.aJ]
     repeat (rw[an (by omega)])
  |some d=>
   rw[hd]at fnx;have hd1:=hsm nx d hd;have hdd:wr .i64 (Ld (d:Int) 1)=((d+1:Nat):Int):=U_ (by omega);cases hw:bC fe name with
   |none=>
    rw[hw]at fnm;obtain⟨fe',k1,k2,k3,_⟩:=Cu (x:=name) (m:=d+1) hok;simp only[fC,fU,dA,fD,dB,dI,cV,eA,cE,yielded,aS,ofValue,bI,bf,cW,bN,lD,comp,aT,cZ,dZ,eB,iS,eY,oQ,kH,cB,ck,gh,rj,Fr.aJ,Fr.a_,hn,bh,cm,cn,δ,ε,da,b9,reduceCtorEq,h196,h9,h3,loadAt,isAgg,lookup,eH,bm,cH h9,bin,arith,unop,mapUpdate,fG,V.aZ,dm,mg,j8,ai,gw,ja,j7,kj,j6,jH,gp,g34,g35,g36,g5,g7,hlt,hidx,fnx,fnm,hadd,hdd,k1];refine q1b d hd (λw h=>by rw[hw]at h;cases h) fe' k1 _ ?_ ?_ ?_ ?_
    ·simp only[Fr.a_,hn]
    ·simp only[Fr.aJ,Fr.a_,hn,ε,da,bf]
    ·simp only[Fr.aJ,Fr.a_,hn,δ,ε,da,bf,b9]
    ·intro t ht;simp only[Fr.aJ]
     repeat (rw[an (by omega)])
   |some w=>
    rw[hw]at fnm;by_cases hlt2:d+1<w
    ·obtain⟨fe',k1,k2,k3,_⟩:=Cu (x:=name) (m:=d+1) hok;have hcmp:decide (((d+1:Nat):Int)<(w:Int))=true:=BY (by omega);simp only[fC,fU,dA,fD,dB,dI,cV,eA,cE,yielded,aS,ofValue,bI,bf,cW,bN,lD,comp,aT,cZ,dZ,eB,iS,eY,oQ,kH,cB,ck,gh,Fr.aJ,Fr.a_,hn,bh,cm,cn,δ,ε,da,b9,h196,h9,h3,loadAt,isAgg,lookup,eH,bm,cH h9,bin,arith,unop,mapUpdate,fG,V.aZ,dm,j8,ai,gw,kj,j6,jH,gp,g34,g35,g36,g5,g7,hlt,hidx,fnx,fnm,hadd,hdd,k1,hcmp];refine q1b d hd (λw' h=>by rw[hw]at h;injection h with h;omega) fe' k1 _ ?_ ?_ ?_ ?_
     ·simp only[Fr.a_,hn]
     ·simp only[Fr.aJ,Fr.a_,hn,ε,da,bf]
     ·simp only[Fr.aJ,Fr.a_,hn,δ,ε,da,bf,b9]
     ·intro t ht;simp only[Fr.aJ]
      repeat (rw[an (by omega)])
    ·have hcmp:decide (((d+1:Nat):Int)<(w:Int))=false:=AS (by omega);simp only[fC,fU,dA,fD,dB,dI,cV,eA,cE,yielded,aS,ofValue,bI,bf,cW,bN,lD,comp,aT,cZ,dZ,eB,iS,eY,oQ,kH,cB,ck,gh,Fr.aJ,Fr.a_,hn,bh,cm,cn,δ,ε,da,b9,h196,h9,h3,loadAt,isAgg,lookup,eH,bm,cH h9,bin,arith,unop,mapUpdate,fG,V.aZ,dm,ai,gw,j6,jH,gp,g34,g35,g36,g5,g7,hlt,hidx,fnx,fnm,hadd,hdd,hcmp];refine q1a (λd' h=>by rw[hd]at h;injection h with h;exact⟨w,hw,by omega⟩) _ ?_ ?_ ?_
     ·simp only[Fr.a_,hn]
     ·simp only[Fr.aJ,Fr.a_,hn,ε,da,bf]
     ·intro t ht;simp only[Fr.aJ]
      repeat (rw[an (by omega)])
theorem Oh(h196:E.ty 209=some { kd:=.map 9 3,size:=1,bytes:=8,zero:=.cA })(h111:E.ty 107=some { kd:=.map 9 24,size:=1,bytes:=8,zero:=.cA })(h44:E.ty 24=some { kd:=.sl 9,size:=1,bytes:=24,zero:=.aG })
  (h9:E.ty 9=some { kd:=.str,size:=1,bytes:=16,zero:=.str [] })(h3:E.ty 3=some { kd:=.int .i64,size:=1,bytes:=8,zero:=.int .i64 0 })(h4:E.ty 4=some { kd:=.bool,size:=1,bytes:=1,zero:=.bool false })
  {es:List (V × V)}{f:List Nat}(hes:es.length<=1000000)(hbk:gQ es)(hnd:(es.map ks).Nodup){name:List Nat}{lv:V}(hmem:(ab name,lv)∈es){l:List (List Nat)}(hlv:SV lv l)(hln:cC es name=l)(hlen:l.length<=4000000000000000000){its:Sg}{fe0:List (V × V)}{tb0:Bool}(N:Nat) :
  ∀(m i:Nat)(fr:Fr)(fe:List (V × V)) (tb:Bool),m+i=l.length->HC es f fe->fr.n=119->fr.get 34=some lv->fr.get 35=some (.int .i64 (l.length:Int))->fr.get 36=some (.int .i64 (i:Int))->fr.get 7=some (.str name)->fr.get 6=some (.bool tb)->fr.get 5=some (.ref 1 0) ->
   ((tb=tb0/\fe=fe0/\∀j nx,j<i->l[j]?=some nx->wX fe0 name nx)\/(tb=true/\NB es f fe<NB es f fe0)) ->
   eV E (N+m+21) (.loop (bk [1,1,0,1,2,2,1,2,1,1,2,2,1,1,2,1,1,2,2])) fr (.map fe::.cells 209 [.mp 0] true::its) λx fr' σ'=>x=.exit 4/\∃fe' tb',HC es f fe'/\σ'=.map fe'::.cells 209 [.mp 0] true::its/\fr'.n=119/\fr'.get 6=some (.bool tb')/\(∀t,t<10/\t≠6\/t=28->fr'.get t=fr.get t) /\
    ((tb'=tb0/\fe'=fe0/\∀nx∈l,wX fe0 name nx)\/(tb'=true/\NB es f fe'<NB es f fe0)):=by
 intro m
 induction m with
 |zero=>
  intro i fr fe tb hi hF hn g34 g35 g36 g7 g6 g5 hacc;show eV E ((N+20)+1) _ _ _ _;rw[eV];refine D7 h196 h111 h44 h9 h3 h4 N fr hn hlv g34 g35 g36 g7 g6 g5 hF.ok (λx k hx=>by have:=hF.lt hx;omega) hlen ?_ (λnx hnx=>?_) (by omega)
  ·intro _ fr' k1 k2;refine⟨rfl,fe,tb,hF,rfl,k1,by rw[k2 6 (by omega)];exact g6,λt ht=>k2 t (by omega),?_⟩;rcases hacc with⟨a1,a2,a3⟩ | h
   ·refine .inl ⟨a1,a2,λnx hnx=>?_⟩;obtain⟨j,hj⟩:=List.getElem?_of_mem hnx;exact a3 j nx (by have:=(AI.1 hj).1;omega) hj
   ·exact .inr h
  ·have:=(AI.1 hnx).1;omega
 |succ m ih=>
  intro i fr fe tb hi hF hn g34 g35 g36 g7 g6 g5 hacc;show eV E ((N+m+1+20)+1) _ _ _ _;rw[eV];refine D7 h196 h111 h44 h9 h3 h4 (N+m+1) fr hn hlv g34 g35 g36 g7 g6 g5 hF.ok (λx k hx=>by have:=hF.lt hx;omega) hlen (λh=>by omega) (λnx hnx=>⟨?_,?_⟩) (by omega)
  ·intro hc fr' k1 k2 k3
   have:=ih (i+1) fr' fe tb (by omega) hF k1 (by rw[k3 34 (by omega)];exact g34) (by rw[k3 35 (by omega)];exact g35) k2 (by rw[k3 7 (by omega)];exact g7) (by rw[k3 6 (by omega)];exact g6) (by rw[k3 5 (by omega)];exact g5) (by
    rcases hacc with⟨a1,a2,a3⟩ | h
    ·refine .inl ⟨a1,a2,λj nx' hj hnx'=>?_⟩;by_cases e:j=i
     ·subst e;rw[hnx]at hnx';injection hnx' with hnx';subst hnx';intro d hd;rw[<- a2]at hd ⊢;exact hc d hd
     ·exact a3 j nx' (by omega) hnx'
    ·exact .inr h)
   refine eM _ this ?_;rintro x fr2 σ2 ⟨rfl,fe',tb',b1,b2,b3,b4,b5,b6⟩;exact⟨rfl,fe',tb',b1,b2,b3,b4,λt ht=>(b5 t ht).trans (k3 t (by omega)),b6⟩
  ·intro d hd hw fe' hp fr' k1 k2 k3 k4;have hnx':nx∈cC es name:=by rw[hln];exact ag hnx
   obtain⟨c1,c2⟩:=hF.ZD hnx' (cv.2 ⟨_,hmem,rfl⟩) hd hw hp
   have:=ih (i+1) fr' fe' true (by omega) c1 k1 (by rw[k4 34 (by omega)];exact g34) (by rw[k4 35 (by omega)];exact g35) k2 (by rw[k4 7 (by omega)];exact g7) k3 (by rw[k4 5 (by omega)];exact g5) (by
    refine .inr ⟨rfl,?_⟩;rcases hacc with⟨_,a2,_⟩ | ⟨_,h⟩
    ·rw[<- a2];exact c2
    ·omega)
   refine eM _ this ?_;rintro x fr2 σ2 ⟨rfl,fe2,tb',b1,b2,b3,b4,b5,b6⟩;exact⟨rfl,fe2,tb',b1,b2,b3,b4,λt ht=>(b5 t ht).trans (k4 t (by omega)),b6⟩
theorem BQ(h196:E.ty 209=some { kd:=.map 9 3,size:=1,bytes:=8,zero:=.cA })(h111:E.ty 107=some { kd:=.map 9 24,size:=1,bytes:=8,zero:=.cA })(h44:E.ty 24=some { kd:=.sl 9,size:=1,bytes:=24,zero:=.aG })
  (h9:E.ty 9=some { kd:=.str,size:=1,bytes:=16,zero:=.str [] })(h3:E.ty 3=some { kd:=.int .i64,size:=1,bytes:=8,zero:=.int .i64 0 })(h4:E.ty 4=some { kd:=.bool,size:=1,bytes:=1,zero:=.bool false })
  (n:Nat)(fr:Fr)(hn:fr.n=119){k:Nat}(g28:fr.get 28=some (.ref (k+2) 0)){a b:O}{its:Sg}{left:List (V × V)}{cur:Option (V × V)}(hk:its[k]?=some (.tF left cur)){Q:X->Fr->Sg->Prop}(hleft:∀e∈left,(∃s,e.1=.str s)/\∃l,SV e.2 l)
  (q0:left=[]->∀fr':Fr,fr'.n=119->(∀t,t<29->fr'.get t=fr.get t)->Q (.exit 2) fr' (a::b::its))
  (q1:∀p e z name l,left=p++e::z->e.1=.str name->SV e.2 l->∀fr':Fr,fr'.n=119->fr'.get 34=some e.2->fr'.get 35=some (.int .i64 (l.length:Int))->fr'.get 36=some (.int .i64 ((0:Nat):Int))->fr'.get 7=some (.str name)->(∀t,t<7\/t=28->fr'.get t=fr.get t) ->
   eV E (n+20) (.block 4 (.loop (bk [1,1,0,1,2,2,1,2,1,1,2,2,1,1,2,1,1,2,2]))) fr' (a::b::its.set k (.tF (p++z) (some e))) λx fr Z=>match x with
    | .exit id=>if id=3 then Q .normal fr Z else Q (.exit id) fr Z
    |x=>Q x fr Z) :
  eV E (n+25) (bk [1,1,0,1,2,2,1,2,1,1,2,2]) fr (a::b::its) Q:=by
 have hkl:=(AI.1 hk).1;have hk2:(a::b::its)[k+2]?=some (.tF left cur):=by simpa using hk
 have hset:∀o,(a::b::its).set (k+2) o=a::b::its.set k o:=λo=>rfl;have hget:∀o,(a::b::its.set k o)[k+2]?=some o:=λo=>by simp[hkl]
 have e1:bk [1,1,0,1,2,2,1,2,1,1,2,2]=.seq (bk ([1,1,0,1,2,2,1,2,1,1,2,2]++[0])) (.seq (bk ([1,1,0,1,2,2,1,2,1,1,2,2]++[1,0])) (.block 3 (.seq (bk ([1,1,0,1,2,2,1,2,1,1,2,2]++[1,1,2,0])) (.seq (bk ([1,1,0,1,2,2,1,2,1,1,2,2]++[1,1,2,1,0])) (.block 4 (.loop (bk [1,1,0,1,2,2,1,2,1,1,2,2,1,1,2,1,1,2,2]))))))):=rfl;rw[e1];generalize hB:Code.block 3 _=B3;simp only[bk,Cm,ey,cz,aA,eh,ay];simp only[fC,fU,dA,fD,dI,cV,eA,cE,Fq,aS,g28,hk2,bf,true_and,cW,bN,lD,comp,cZ,ck,Fr.aJ,Fr.a_,hn,bh,δ,ε,da,b9,hset];refine⟨?_,?_⟩
 ·intro hl;refine q0 hl _ (by simp only[Fr.a_,hn]) λt ht=>?_;simp only[Fr.aJ]
  repeat (rw[an (by omega)])
 ·intro p e z hl;obtain⟨⟨name,hname⟩,l,hsv⟩:=hleft e (by rw[hl];simp)
  have hln:lenOf E (a::b::its.set k (.tF (p++z) (some e))) 24 e.2=some l.length:=by
   rcases hsv with⟨h1,h2⟩ | ⟨g,full,h1⟩
   ·rw[h1,h2];simp only[lenOf,h44,aq]
   ·rw[h1];simp only[lenOf,h44,bw]
  rw[<- hB];clear hB;generalize hrest:Code.block 4 (.loop (bk [1,1,0,1,2,2,1,2,1,1,2,2,1,1,2,1,1,2,2]))=rest at q1 ⊢;simp only[bk,Cm,ey,cz,aA,eh,ay];simp only[dA,dB,dI,cV,eA,cE,aS,eJ,ofValue,bI,bf,cW,bN,lD,comp,aT,cZ,AV,eN,builtin,ck,Fr.aJ,Fr.a_,hn,bh,cm,cn,δ,ε,da,b9,h44,h9,gw,V.cells,ac,g28,AV,hget,hln];refine q1 p e z name l hl hname hsv _ ?_ ?_ ?_ ?_ ?_ ?_
  ·simp only[Fr.a_,hn]
  ·simp only[Fr.aJ,Fr.a_,hn,δ,ε,da,bf,b9]
  ·simp only[Fr.aJ,Fr.a_,hn,δ,ε,da,bf,b9]
  ·simp only[Fr.aJ,Fr.a_,hn,δ,ε,da,bf,b9];rfl
  ·simp only[Fr.aJ,Fr.a_,hn,δ,ε,da,bf,b9,hname]
  ·intro t ht;simp only[Fr.aJ]
   repeat (rw[an (by omega)])
theorem Hj(h196:E.ty 209=some { kd:=.map 9 3,size:=1,bytes:=8,zero:=.cA })(h111:E.ty 107=some { kd:=.map 9 24,size:=1,bytes:=8,zero:=.cA })(h44:E.ty 24=some { kd:=.sl 9,size:=1,bytes:=24,zero:=.aG })
  (h9:E.ty 9=some { kd:=.str,size:=1,bytes:=16,zero:=.str [] })(h3:E.ty 3=some { kd:=.int .i64,size:=1,bytes:=8,zero:=.int .i64 0 })(h4:E.ty 4=some { kd:=.bool,size:=1,bytes:=1,zero:=.bool false })
  {es:List (V × V)}{f:List Nat}(hes:es.length<=1000000)(hbk:gQ es)(hnd:(es.map ks).Nodup){K:Nat}(hK:K<=4000000000000000000)(hKl:∀e∈es,(jB e.2).length<=K){k:Nat}{fe0:List (V × V)}(N:Nat) :
  ∀(m:Nat)(left p:List (V × V)) (cur:Option (V × V)) (its:Sg) (fr:Fr) (fe:List (V × V)) (tb:Bool),left.length=m->(p++left).Perm es->its[k]?=some (.tF left cur)->HC es f fe->fr.n=119->fr.get 28=some (.ref (k+2) 0)->fr.get 6=some (.bool tb)->fr.get 5=some (.ref 1 0) ->
   ((tb=false/\fe=fe0/\∀e∈p,∀name,e.1=.str name->∀nx∈jB e.2,wX fe0 name nx)\/(tb=true/\NB es f fe<NB es f fe0)) ->
   eV E (N+K+m+50) (.loop (bk [1,1,0,1,2,2,1,2,1,1,2,2])) fr (.map fe::.cells 209 [.mp 0] true::its) λx fr' σ'=>x=.exit 2/\∃fe' tb' its',HC es f fe'/\its'.length=its.length/\σ'=.map fe'::.cells 209 [.mp 0] true::its'/\fr'.n=119/\fr'.get 6=some (.bool tb')/\(∀t,t<6->fr'.get t=fr.get t) /\
    ((tb'=false/\fe'=fe0/\∀e∈es,∀name,e.1=.str name->∀nx∈jB e.2,wX fe0 name nx)\/(tb'=true/\NB es f fe'<NB es f fe0)):=by
 intro m
 induction m with
 |zero=>
  intro left p cur its fr fe tb hl hp hk hF hn g28 g6 g5 hacc;have:left=[]:=iu.1 hl;subst this;show eV E ((N+K+24)+25+1) _ _ _ _;rw[oE];refine BQ h196 h111 h44 h9 h3 h4 (N+K+24) fr hn g28 hk (λe he=>by cases he) (λ_ fr' k1 k2=>?_) (λp e z name l h=>by simp at h);refine⟨rfl,fe,tb,its,hF,rfl,rfl,k1,by rw[k2 6 (by omega)];exact g6,λt ht=>k2 t (by omega),?_⟩;rcases hacc with⟨a1,a2,a3⟩ | h
  ·exact .inl ⟨a1,a2,λe he=>a3 e (by have:=hp.mem_iff.2 he;simpa using this)⟩
  ·exact .inr h
 |succ m ih=>
  intro left p cur its fr fe tb hl hp hk hF hn g28 g6 g5 hacc;show eV E ((N+K+m+25)+25+1) _ _ _ _;rw[oE];have hmem:∀e∈left,e∈es:=λe he=>hp.mem_iff.1 (jy _ he);have hkl:=(AI.1 hk).1;refine BQ h196 h111 h44 h9 h3 h4 (N+K+m+25) fr hn g28 hk (λe he=>⟨(hbk e (hmem e he)).1,_,(hbk e (hmem e he)).2⟩) (λh=>by rw[h]at hl;simp at hl) ?_;intro pa e z name l hz hname hsv fr' k1 k2 k3 k4 k5 k6;have hee:e∈es:=hmem e (by rw[hz];simp);have hme:(ab name,e.2)∈es:=by rw[<- hname];exact hee
  have hlist:jB e.2=l:=by
   rcases hsv with⟨h1,h2⟩ | ⟨g,full,h1⟩
   ·rw[h1,h2];rfl
   ·rw[h1]
    have:∀l:List (List Nat),nY (l.map λs=>[ab s])=l:=λl=>by
     induction l with
     |nil=>rfl
     |cons a l ih=>simp[nY,ih]
    exact this l
  have hnext:cC es name=l:=by rw[yB hbk hnd hme,hlist]
  have hlK:l.length<=K:=by rw[<- hlist];exact hKl e hee
  show eV E ((N+K+m+44)+1) _ _ _ _;rw[dB];obtain⟨N',hN'⟩:∃N',N+K+m+44=N'+l.length+21:=⟨N+K+m+23-l.length,by omega⟩;rw[hN'];have hloop:=Oh (tb0:=tb) (fe0:=fe) h196 h111 h44 h9 h3 h4 hes hbk hnd hme hsv hnext (by omega) (its:=its.set k (.tF (pa++z) (some e))) N' l.length 0 fr' fe tb (by omega) hF k1 k2 k3 k4 k5 (by rw[k6 6 (by omega)];exact g6) (by rw[k6 5 (by omega)];exact g5) (.inl ⟨rfl,rfl,λj nx hj=>by omega⟩);refine eM _ hloop ?_;rintro x fr2 σ2 ⟨rfl,fe',tb',b1,b2,b3,b4,b5,b6⟩;subst b2;simp only[δ,bf,b9]
  have hp2:((p++[e])++(pa++z)).Perm es:=by
   refine List.Perm.trans ?_ hp;rw[hz,cw];exact qb p (by simpa using (jt (l₁:=pa) (a:=e) (l₂:=z)).symm)
  have:=ih (pa++z) (p++[e]) (some e) (its.set k (.tF (pa++z) (some e))) fr2 fe' tb' (by rw[hz]at hl;simp at hl ⊢;omega) hp2 (by simp[hkl]) b1 b3 (by rw[b5 28 (by omega),k6 28 (by omega)];exact g28) b4 (by rw[b5 5 (by omega),k6 5 (by omega)];exact g5) (by
   rcases b6 with⟨c1,c2,c3⟩ | ⟨c1,c2⟩
   ·rcases hacc with⟨a1,a2,a3⟩ | ⟨a1,a2⟩
    ·refine .inl ⟨by rw[c1,a1],by rw[c2,a2],λe' he' name' hn' nx hnx=>?_⟩;rcases cq.1 he' with he' | he'
     ·exact a3 e' he' name' hn' nx hnx
     ·simp only[cj]at he';subst he';rw[hname]at hn';injection hn' with hn';subst hn';rw[<- a2];exact c3 nx (by rw[<- hlist];exact hnx)
    ·exact .inr ⟨by rw[c1,a1],by rw[c2];exact a2⟩
   ·refine .inr ⟨c1,?_⟩;rcases hacc with⟨_,a2,_⟩ | ⟨_,a2⟩
    ·rw[<- a2];exact c2
    ·omega)
  refine eM _ this ?_;rintro x fr3 σ3 ⟨rfl,fe2,tb2,its2,d1,d2,d3,d4,d5,d6,d7⟩;exact⟨rfl,fe2,tb2,its2,d1,by rw[d2];simp,d3,d4,d5,λt ht=>(d6 t ht).trans ((b5 t (by omega)).trans (k6 t (by omega))),d7⟩
def wY(es:List (V × V))(fe:List (V × V)):Prop:=∀e∈es,∀name,e.1=.str name->∀nx∈jB e.2,wX fe name nx
theorem BG(h196:E.ty 209=some { kd:=.map 9 3,size:=1,bytes:=8,zero:=.cA })(h111:E.ty 107=some { kd:=.map 9 24,size:=1,bytes:=8,zero:=.cA })(h44:E.ty 24=some { kd:=.sl 9,size:=1,bytes:=24,zero:=.aG })
  (h9:E.ty 9=some { kd:=.str,size:=1,bytes:=16,zero:=.str [] })(h3:E.ty 3=some { kd:=.int .i64,size:=1,bytes:=8,zero:=.int .i64 0 })(h4:E.ty 4=some { kd:=.bool,size:=1,bytes:=1,zero:=.bool false })
  {es:List (V × V)}{g:Bool}(n:Nat){its:Sg}{a b:O}{fr:Fr}{tb:Bool}(hn:fr.n=119)(g0:fr.get 0=some (.imp g es))(g6:fr.get 6=some (.bool tb)){Q:X->Fr->Sg->Prop}
  (q0:tb=false->∀fr':Fr,fr'.n=119->(∀t,t<26->fr'.get t=fr.get t)->Q (.exit 0) fr' (a::b::its))
  (q1:tb=true->∀fr':Fr,fr'.n=119->fr'.get 28=some (.ref (its.length+2) 0)->fr'.get 6=some (.bool false)->(∀t,t<6->fr'.get t=fr.get t) ->
   eV E (n+20) (.block 2 (.loop (bk [1,1,0,1,2,2,1,2,1,1,2,2]))) fr' (a::b::(its++[.tF es none])) λx fr Z=>match x with
    | .exit id=>if id=1 then Q .normal fr Z else Q (.exit id) fr Z
    |x=>Q x fr Z) :
  eV E (n+24) (bk [1,1,0,1,2,2]) fr (a::b::its) Q:=by
 have e1:bk [1,1,0,1,2,2]=.seq (bk ([1,1,0,1,2,2]++[0])) (.block 1 (.seq (bk ([1,1,0,1,2,2]++[1,2,0])) (.seq (bk ([1,1,0,1,2,2]++[1,2,1,0])) (.block 2 (.loop (bk [1,1,0,1,2,2,1,2,1,1,2,2])))))):=rfl;rw[e1];generalize hB:Code.block 2 (.loop (bk [1,1,0,1,2,2,1,2,1,1,2,2]))=B2 at q1 ⊢;simp only[bk,Cm,ey,cz,aA,eh,ay];cases tb with
 |false=>
  simp only[fC,fU,dA,fD,dB,dI,cV,eA,cE,aS,ofValue,bI,bf,cW,bN,lD,comp,aT,qA,ck,Fr.aJ,hn,ε,da,reduceCtorEq,h111,g6];refine q0 rfl _ (by simp only[Fr.a_,hn]) λt ht=>?_;simp only[Fr.aJ]
  repeat (rw[an (by omega)])
 |true=>
  simp only[fC,fU,dA,fD,dB,dI,cV,eA,cE,aS,ofValue,bI,bf,cW,bN,lD,comp,aT,qA,ck,Fr.aJ,Fr.a_,hn,δ,ε,da,b9,reduceCtorEq,h111,IT,g6,g0];refine q1 rfl _ ?_ ?_ ?_ ?_
  ·simp only[Fr.a_,hn]
  ·simp only[Fr.aJ,Fr.a_,hn,δ,ε,da,bf,b9]
  ·simp only[Fr.aJ,Fr.a_,hn,δ,ε,da,bf,b9]
  ·intro t ht;simp only[Fr.aJ]
   repeat (rw[an (by omega)])
theorem Kw(h196:E.ty 209=some { kd:=.map 9 3,size:=1,bytes:=8,zero:=.cA })(h111:E.ty 107=some { kd:=.map 9 24,size:=1,bytes:=8,zero:=.cA })(h44:E.ty 24=some { kd:=.sl 9,size:=1,bytes:=24,zero:=.aG })
  (h9:E.ty 9=some { kd:=.str,size:=1,bytes:=16,zero:=.str [] })(h3:E.ty 3=some { kd:=.int .i64,size:=1,bytes:=8,zero:=.int .i64 0 })(h4:E.ty 4=some { kd:=.bool,size:=1,bytes:=1,zero:=.bool false })
  {es:List (V × V)}{f:List Nat}(hes:es.length<=1000000)(hbk:gQ es)(hnd:(es.map ks).Nodup){K:Nat}(hK:K<=4000000000000000000)(hKl:∀e∈es,(jB e.2).length<=K){g:Bool}(N:Nat) :
  ∀(m:Nat)(its:Sg)(fr:Fr)(fe:List (V × V)) (tb:Bool),(tb=true->NB es f fe<m)->(tb=false->wY es fe)->HC es f fe->fr.n=119->fr.get 0=some (.imp g es)->fr.get 6=some (.bool tb)->fr.get 5=some (.ref 1 0) ->
   eV E (N+K+es.length+m+90) (.loop (bk [1,1,0,1,2,2])) fr (.map fe::.cells 209 [.mp 0] true::its) λx fr' σ'=>x=.exit 0/\∃fe' its',HC es f fe'/\wY es fe'/\σ'=.map fe'::.cells 209 [.mp 0] true::its'/\fr'.n=119/\(∀t,t<6->fr'.get t=fr.get t):=by
 have stop:∀(n:Nat)(its:Sg)(fr:Fr)(fe:List (V × V)),wY es fe->HC es f fe->fr.n=119->fr.get 0=some (.imp g es)->fr.get 6=some (.bool false) ->
   eV E (n+25) (.loop (bk [1,1,0,1,2,2])) fr (.map fe::.cells 209 [.mp 0] true::its) λx fr' σ'=>x=.exit 0/\∃fe' its',HC es f fe'/\wY es fe'/\σ'=.map fe'::.cells 209 [.mp 0] true::its'/\fr'.n=119/\(∀t,t<6->fr'.get t=fr.get t):=by
  intro n its fr fe hc hF hn g0 g6;show eV E ((n+24)+1) _ _ _ _;rw[oE];refine BG h196 h111 h44 h9 h3 h4 n hn g0 g6 (λ_ fr' k1 k2=>?_) (λh=>by cases h);exact⟨rfl,fe,its,hF,hc,rfl,k1,λt ht=>k2 t (by omega)⟩
 intro m
 induction m with
 |zero=>
  intro its fr fe tb hp hc hF hn g0 g6 g5;cases tb with
  |false=>exact stop (N+K+es.length+65) its fr fe (hc rfl) hF hn g0 g6
  |true=>exact absurd (hp rfl) (Nat.not_lt_zero _)
 |succ m ih=>
  intro its fr fe tb hp hc hF hn g0 g6 g5;cases tb with
  |false=>exact stop (N+K+es.length+m+66) its fr fe (hc rfl) hF hn g0 g6
  |true=>
   show eV E ((N+K+es.length+m+66+24)+1) _ _ _ _;rw[oE];refine BG h196 h111 h44 h9 h3 h4 (N+K+es.length+m+66) hn g0 g6 (λh=>by cases h) (λ_ fr' k1 k2 k3 k4=>?_);show eV E ((N+K+es.length+m+85)+1) _ _ _ _;rw[dB];obtain⟨N',hN'⟩:∃N',N+K+es.length+m+85=N'+K+es.length+50:=⟨N+m+35,by omega⟩;rw[hN'];have:=Hj (fe0:=fe) h196 h111 h44 h9 h3 h4 hes hbk hnd hK hKl (k:=its.length) N' es.length es [] none (its++[.tF es none]) fr' fe false rfl (by simp) (by simp) hF k1 k2 k3 (by rw[k4 5 (by omega)];exact g5) (.inl ⟨rfl,rfl,λe he=>by cases he⟩);refine eM _ this ?_;rintro x fr2 σ2 ⟨rfl,fe',tb',its',b1,b2,b3,b4,b5,b6,b7⟩;subst b3;simp only[δ,bf,b9];have g0':fr2.get 0=some (.imp g es):=by rw[b6 0 (by omega),k4 0 (by omega)];exact g0
   rcases b7 with⟨rfl,rfl,c3⟩ | ⟨rfl,c2⟩
   ·have:=stop (N+K+es.length+m+65) its' fr2 fe' c3 b1 b4 g0' b5;refine eM _ this ?_;rintro x fr3 σ3 ⟨rfl,fe2,its2,d1,d2,d3,d4,d5⟩;exact⟨rfl,fe2,its2,d1,d2,d3,d4,λt ht=>(d5 t ht).trans ((b6 t ht).trans (k4 t ht))⟩
   ·have:=ih its' fr2 fe' true (λ_=>by have:=hp rfl;omega) (λh=>by cases h) b1 b4 g0' b5 (by rw[b6 5 (by omega),k4 5 (by omega)];exact g5);refine eM _ this ?_;rintro x fr3 σ3 ⟨rfl,fe2,its2,d1,d2,d3,d4,d5⟩;exact⟨rfl,fe2,its2,d1,d2,d3,d4,λt ht=>(d5 t ht).trans ((b6 t ht).trans (k4 t ht))⟩
def tV:Option Nat->Int
 |none=>-1
 |some b=>(b:Int)
theorem Ej(h196:E.ty 209=some { kd:=.map 9 3,size:=1,bytes:=8,zero:=.cA })(h111:E.ty 107=some { kd:=.map 9 24,size:=1,bytes:=8,zero:=.cA })(h44:E.ty 24=some { kd:=.sl 9,size:=1,bytes:=24,zero:=.aG })
  (h9:E.ty 9=some { kd:=.str,size:=1,bytes:=16,zero:=.str [] })(h3:E.ty 3=some { kd:=.int .i64,size:=1,bytes:=8,zero:=.int .i64 0 })(h4:E.ty 4=some { kd:=.bool,size:=1,bytes:=1,zero:=.bool false })
  (n:Nat)(fr:Fr)(hn:fr.n=119){lv:V}{l:List (List Nat)}(hl:SV lv l){i B:Nat}(g70:fr.get 70=some lv)(g71:fr.get 71=some (.int .i64 (l.length:Int)))(g72:fr.get 72=some (.int .i64 (i:Int)))(g5:fr.get 5=some (.ref 1 0))(g15:fr.get 15=some (.ref B 0))
  {fe:List (V × V)}(hok:nJ fe)(hlen:l.length<=4000000000000000000){Z:Sg}{acc:Option Nat}(s0:Z[0]?=some (.map fe))(s1:Z[1]?=some (.cells 209 [.mp 0] true))(sB:Z[B]?=some (.cells 3 [.int .i64 (tV acc)] true)){Q:X->Fr->Sg->Prop}
  (q0:i=l.length->∀fr':Fr,fr'.n=119->(∀t,t≠73->fr'.get t=fr.get t)->Q (.exit 6) fr' Z)
  (q1:∀nx,l[i]?=some nx->∀σ',((σ'=Z/\eS (bC fe) acc nx=acc)\/σ'=Z.set B (.cells 3 [.int .i64 (tV (eS (bC fe) acc nx))] true))->∀fr':Fr,fr'.n=119->fr'.get 72=some (.int .i64 ((i+1:Nat):Int))->(∀t,t<17\/t=70\/t=71->fr'.get t=fr.get t)->Q .normal fr' σ')
  (hi:i<=l.length):eV E (n+20) (bk [1,1,1,1,0,1,2,2]) fr Z Q:=by
 simp only[bk,Cm,aA,eh,ay];by_cases hil:i=l.length
 ·have hlt:decide ((i:Int)<(l.length:Int))=false:=AS (by omega);simp only[fC,fU,dA,fD,dB,dI,cV,eA,cE,yielded,aS,ofValue,bI,bf,cW,bN,lD,comp,cZ,eB,iS,kG,eY,kH,cB,gh,Fr.aJ,hn,bh,cm,cn,ε,da,b9,h196,h9,h3,loadAt,storeAt,isAgg,lookup,eH,bm,cH h9,bin,arith,ai,V.cells,ac,jH,gp,g71,g72,hlt];refine q0 hil _ (by simp only[Fr.a_,hn]) λt ht=>by simp only[Fr.aJ,ht,false_and,b9]
 ·obtain⟨nx,hnx⟩:∃nx,l[i]?=some nx:=⟨_,AT (by omega)⟩;have hlt:decide ((i:Int)<(l.length:Int))=true:=BY (by omega)
  obtain⟨g,full,rfl⟩:∃g full,lv=.bV g (l.map λs=>[ab s]) full:=by
   rcases hl with⟨_,rfl⟩ | h
   ·simp at hnx
   ·exact h
  have hrow:(l.map λs=>[ab s])[i]?=some [ab nx]:=by simp[hnx]
  have hidx:indexAddr E 24 (.bV g (l.map λs=>[ab s]) full) (.int .i64 (i:Int))=some (.cR g [.str nx]):=by
   simp only[indexAddr,h44,h9];rw[an (by omega),dx,hrow];simp
  have hadd:wr .i64 (Ld (i:Int) 1)=((i+1:Nat):Int):=U_ (by omega);have fnx:=vR (x:=nx) hok;have q1:=q1 nx hnx;cases hd:bC fe nx with
  |none=>
   rw[hd]at fnx;simp only[fC,fU,dA,fD,dB,dI,cV,eA,cE,yielded,aS,ofValue,bI,bf,cW,bN,lD,comp,cZ,eB,iS,kG,eY,kH,cB,ck,gh,rj,Fr.aJ,Fr.a_,hn,bh,cm,cn,δ,ε,da,b9,reduceCtorEq,h196,h9,h3,loadAt,storeAt,isAgg,lookup,eH,bm,cH h9,bin,arith,dm,ai,ja,j7,V.cells,ac,j6,jH,gp,g70,g71,g72,g5,hlt,hidx,fnx,hadd,s0,s1];refine q1 Z (.inl ⟨rfl,by simp only[eS,hd]⟩) _ ?_ ?_ ?_
   ·simp only[Fr.a_,hn]
   ·simp only[Fr.aJ,Fr.a_,hn,δ,ε,da,bf,b9]
   ·intro t ht;simp only[Fr.aJ]
    repeat (rw[an (by omega)])
  |some d=>
   rw[hd]at fnx;cases acc with
   |none=>
    have hcmp:decide (tV none<0)=true:=by decide
    simp only[fC,fU,dA,fD,dB,dI,cV,eA,cE,yielded,aS,ofValue,bI,bf,cW,bN,lD,comp,cZ,eB,iS,kG,eY,kH,cB,ck,gh,Fr.aJ,Fr.a_,hn,bh,cm,cn,δ,ε,da,b9,reduceCtorEq,h196,h9,h3,loadAt,storeAt,isAgg,lookup,eH,bm,cH h9,bin,arith,V.aZ,dm,ai,qa,gw,qi,qf,j7,IT,aq,V.cells,ac,jq,cz,mz,gy,dc,iy,ki,OF,mc,j6,jH,gp,g70,g71,g72,g5,g15,hlt,hidx,fnx,hadd,s0,s1,sB,hcmp];refine q1 _ (.inr (by simp only[eS,hd,tV])) _ ?_ ?_ ?_
    ·simp only[Fr.a_,hn]
    ·simp only[Fr.aJ,Fr.a_,hn,δ,ε,da,bf,b9]
    ·intro t ht;simp only[Fr.aJ]
     repeat (rw[an (by omega)])
   |some b=>
    have hcmp0:decide (tV (some b)<0)=false:=AS (by simp only[tV];omega);by_cases hlt2:d<b
    ·have hcmp:decide ((d:Int)<tV (some b))=true:=BY (by simp only[tV];omega);simp only[fC,fU,dA,fD,dB,dI,cV,eA,cE,yielded,aS,ofValue,bI,bf,cW,bN,lD,comp,cZ,eB,iS,kG,eY,kH,cB,ck,gh,Fr.aJ,Fr.a_,hn,bh,cm,cn,δ,ε,da,b9,h196,h9,h3,loadAt,storeAt,isAgg,lookup,eH,bm,cH h9,bin,arith,V.aZ,dm,ai,qa,gw,qi,qf,IT,aq,V.cells,ac,jq,cz,mz,gy,dc,iy,ki,OF,mc,j6,jH,gp,g70,g71,g72,g5,g15,hlt,hidx,fnx,hadd,s0,s1,sB,hcmp0,hcmp];refine q1 _ (.inr (by simp only[eS,hd,tV,az hlt2])) _ ?_ ?_ ?_
     ·simp only[Fr.a_,hn]
     ·simp only[Fr.aJ,Fr.a_,hn,δ,ε,da,bf,b9]
     ·intro t ht;simp only[Fr.aJ]
      repeat (rw[an (by omega)])
    ·have hcmp:decide ((d:Int)<tV (some b))=false:=AS (by simp only[tV];omega);simp only[fC,fU,dA,fD,dB,dI,cV,eA,cE,yielded,aS,ofValue,bI,bf,cW,bN,lD,comp,cZ,eB,iS,kG,eY,kH,cB,ck,gh,Fr.aJ,Fr.a_,hn,bh,cm,cn,δ,ε,da,b9,h196,h9,h3,loadAt,storeAt,isAgg,lookup,eH,bm,cH h9,bin,arith,dm,ai,gw,V.cells,ac,j6,jH,gp,g70,g71,g72,g5,g15,hlt,hidx,fnx,hadd,s0,s1,sB,hcmp0,hcmp];refine q1 Z (.inl ⟨rfl,by simp only[eS,hd,an hlt2]⟩) _ ?_ ?_ ?_
     ·simp only[Fr.a_,hn]
     ·simp only[Fr.aJ,Fr.a_,hn,δ,ε,da,bf,b9]
     ·intro t ht;simp only[Fr.aJ]
      repeat (rw[an (by omega)])
theorem Oz(h196:E.ty 209=some { kd:=.map 9 3,size:=1,bytes:=8,zero:=.cA })(h111:E.ty 107=some { kd:=.map 9 24,size:=1,bytes:=8,zero:=.cA })(h44:E.ty 24=some { kd:=.sl 9,size:=1,bytes:=24,zero:=.aG })
  (h9:E.ty 9=some { kd:=.str,size:=1,bytes:=16,zero:=.str [] })(h3:E.ty 3=some { kd:=.int .i64,size:=1,bytes:=8,zero:=.int .i64 0 })(h4:E.ty 4=some { kd:=.bool,size:=1,bytes:=1,zero:=.bool false })
  {lv:V}{l:List (List Nat)}(hl:SV lv l){B:Nat}(hB:2<=B){fe:List (V × V)}(hok:nJ fe)(hlen:l.length<=4000000000000000000)(N:Nat) :
  ∀(m i:Nat)(fr:Fr)(Z:Sg)(acc:Option Nat),m+i=l.length->acc=(l.take i).foldl (eS (bC fe)) none->fr.n=119->fr.get 70=some lv->fr.get 71=some (.int .i64 (l.length:Int))->fr.get 72=some (.int .i64 (i:Int))->fr.get 5=some (.ref 1 0)->fr.get 15=some (.ref B 0) ->
   Z[0]?=some (.map fe)->Z[1]?=some (.cells 209 [.mp 0] true)->Z[B]?=some (.cells 3 [.int .i64 (tV acc)] true) ->
   eV E (N+m+21) (.loop (bk [1,1,1,1,0,1,2,2])) fr Z λx fr' σ'=>x=.exit 6/\fr'.n=119/\(∀t,t<17->fr'.get t=fr.get t)/\σ'[0]?=some (.map fe)/\σ'[1]?=some (.cells 209 [.mp 0] true)/\σ'[B]?=some (.cells 3 [.int .i64 (tV (l.foldl (eS (bC fe)) none))] true):=by
 intro m
 induction m with
 |zero=>
  intro i fr Z acc hi ha hn g70 g71 g72 g5 g15 s0 s1 sB;show eV E ((N+20)+1) _ _ _ _;rw[oE];refine Ej h196 h111 h44 h9 h3 h4 N fr hn hl g70 g71 g72 g5 g15 hok hlen s0 s1 sB (λ_ fr' k1 k2=>?_) (λnx hnx=>?_) (by omega)
  ·refine⟨rfl,k1,λt ht=>k2 t (by omega),s0,s1,?_⟩;rw[sB,ha,ah (by omega)]
  ·have:=(AI.1 hnx).1;omega
 |succ m ih=>
  intro i fr Z acc hi ha hn g70 g71 g72 g5 g15 s0 s1 sB;show eV E ((N+m+1+20)+1) _ _ _ _;rw[oE];refine Ej h196 h111 h44 h9 h3 h4 (N+m+1) fr hn hl g70 g71 g72 g5 g15 hok hlen s0 s1 sB (λh=>by omega) (λnx hnx σ' hσ fr' k1 k2 k3=>?_) (by omega)
  have hacc:eS (bC fe) acc nx=(l.take (i+1)).foldl (eS (bC fe)) none:=by
   rw[dz,hnx,ha];simp
  have hBl:=(AI.1 sB).1
  obtain⟨t0,t1,tB⟩:σ'[0]?=some (.map fe)/\σ'[1]?=some (.cells 209 [.mp 0] true)/\σ'[B]?=some (.cells 3 [.int .i64 (tV (eS (bC fe) acc nx))] true):=by
   rcases hσ with⟨rfl,h⟩ | rfl
   ·exact⟨s0,s1,by rw[h];exact sB⟩
   ·exact⟨by rw[aa (by omega)];exact s0,by rw[aa (by omega)];exact s1,by simp[hBl]⟩
  have:=ih (i+1) fr' σ' _ (by omega) hacc k1 (by rw[k3 70 (by omega)];exact g70) (by rw[k3 71 (by omega)];exact g71) k2 (by rw[k3 5 (by omega)];exact g5) (by rw[k3 15 (by omega)];exact g15) t0 t1 tB;refine eM _ this ?_;rintro x fr2 σ2 ⟨rfl,b1,b2,b3⟩;exact⟨rfl,b1,λt ht=>(b2 t ht).trans (k3 t (by omega)),b3⟩
end
theorem Fr.Ja:∀(vs:List V)(fr:Fr)(i:Nat),i+vs.length<=fr.n->(fr.fill i vs).n=fr.n/\∀t,(fr.fill i vs).get t=if i<=t/\t<i+vs.length then vs[t-i]? else fr.get t
 | [],fr,i,_=>⟨rfl,λt=>by rw[an (by simp only[aq];omega)];rfl⟩
 |v::vs,fr,i,h=>by
  simp only[IT]at h;obtain⟨h1,h2⟩:=Fr.Ja vs (fr.put i v) (i+1) (by rw[Fr.a_];omega);refine⟨by rw[Fr.fill,h1,Fr.a_],λt=>?_⟩;rw[Fr.fill,h2,Fr.aJ];simp only[IT];by_cases e:t=i
  ·subst e;rw[an (by omega),az (by omega),az (by omega),j9];rfl
  ·by_cases e2:i+1<=t/\t<i+1+vs.length
   ·rw[az e2,az (by omega),show t-i=(t-(i+1))+1 by omega];rfl
   ·rw[an e2,an (by omega),an (by omega)]
theorem Fr.DI{n:Nat}{vs:List V}(h:vs.length<=n):∃fr,Fr.init n vs=some fr/\fr.n=n/\∀t v,vs[t]?=some v->fr.get t=some v:=by
 obtain⟨h1,h2⟩:=Fr.Ja vs ⟨n,.leaf⟩ 0 (by simpa using h);refine⟨_,by unfold Fr.init;rw[show Nat.ble vs.length n=true by rw[Nat.ble_eq];exact h],h1,λt v hv=>?_⟩;have:=(AI.1 hv).1;rw[h2,az (by omega)];simpa using hv
section
variable {E:Env}
theorem UK(h196:E.ty 209=some { kd:=.map 9 3,size:=1,bytes:=8,zero:=.cA })(h111:E.ty 107=some { kd:=.map 9 24,size:=1,bytes:=8,zero:=.cA })(h44:E.ty 24=some { kd:=.sl 9,size:=1,bytes:=24,zero:=.aG })
  (h9:E.ty 9=some { kd:=.str,size:=1,bytes:=16,zero:=.str [] })(h3:E.ty 3=some { kd:=.int .i64,size:=1,bytes:=8,zero:=.int .i64 0 })(h4:E.ty 4=some { kd:=.bool,size:=1,bytes:=1,zero:=.bool false })
  {fe:List (V × V)}(hok:nJ fe)(n:Nat)(nx:List Nat){g1 g2 g3:Bool}(b:Nat)(Z:Sg) :
  enter E (ev E (n+10)) (aA Tryz.f190) [.str nx,.cR g1 [.imp g2 fe],.cR g3 [.int .i64 (b:Int)]] Z=some (.bool (decide (bC fe nx=some b)),Z):=by
 obtain⟨fr,hf,hn,hg⟩:=Fr.DI (n:=(aA Tryz.f190).ntmps) (vs:=[.str nx,.cR g1 [.imp g2 fe],.cR g3 [.int .i64 (b:Int)]]) (show 3<=19 by decide);have g0:=hg 0 _ rfl;have g1':=hg 1 _ rfl;have g2':=hg 2 _ rfl;have hn:fr.n=19:=hn;have fnx:=vR (x:=nx) hok;unfold enter;rw[hf];simp only[aA,Tryz.f190,ay];cases hd:bC fe nx with
 |none=>
  rw[hd]at fnx;simp only[KR,DW,DX,gY,cE,yielded,aS,ofValue,bI,bf,cW,bN,lD,comp,cZ,eB,iS,eY,kH,ck,gh,rj,Fr.aJ,Fr.a_,hn,bh,cm,cn,δ,ε,da,b9,reduceCtorEq,h196,h9,h3,loadAt,isAgg,lookup,eH,bm,cH h9,bin,arith,isConst,dm,j8,ai,ja,j7,j6,Hi,gp,g0,g1',g2',fnx,results];simp
 |some d=>
  rw[hd]at fnx
  have:decide ((d:Int)=(b:Int))=decide (d=b):=by
   by_cases h:d=b
   ·rw[BY h,BY (by omega)]
   ·rw[AS h,AS (by omega)]
  simp only[KR,DW,DX,gY,cE,yielded,aS,ofValue,bI,bf,cW,bN,lD,comp,cZ,eB,iS,eY,kH,ck,gh,Fr.aJ,Fr.a_,hn,bh,cm,cn,δ,ε,da,b9,reduceCtorEq,h196,h9,h3,loadAt,isAgg,lookup,eH,bm,cH h9,bin,arith,isConst,dm,j8,ai,gw,qi,j7,j6,Hi,g0,g1',g2',fnx,results,this]
noncomputable def ix (p:List Nat):Code:=Cm p (aA pf).code
theorem FK(h196:E.ty 209=some { kd:=.map 9 3,size:=1,bytes:=8,zero:=.cA })(h111:E.ty 107=some { kd:=.map 9 24,size:=1,bytes:=8,zero:=.cA })(h44:E.ty 24=some { kd:=.sl 9,size:=1,bytes:=24,zero:=.aG })
  (h9:E.ty 9=some { kd:=.str,size:=1,bytes:=16,zero:=.str [] })(h3:E.ty 3=some { kd:=.int .i64,size:=1,bytes:=8,zero:=.int .i64 0 })(h4:E.ty 4=some { kd:=.bool,size:=1,bytes:=1,zero:=.bool false })
  {pr:List Nat->Bool}{k c:Nat}{caps:List V}{Z:Sg}(hcl:∀n nx,iH E (ev E (n+c)) k (.str nx::caps) Z=some (.bool (pr nx),Z)){g full:Bool}{l:List (List Nat)}(hlen:l.length<=4000000000000000000){i:Nat}{a:List Nat}(ha:l[i]?=some a)(N:Nat)(fr:Fr)
  (hn:fr.n=19)(g0:fr.get 0=some (.bV g (l.map λs=>[ab s]) full))(g1:fr.get 1=some (.fn k [] caps))(g7:fr.get 7=some (.int .i64 (l.length:Int)))(g8:fr.get 8=some (.int .i64 (i:Int))){Q:Option (X × Fr × Sg)->Prop}
  (q1:pr a=true->∀fr':Fr,fr'.get 4=some (.int .i64 (i:Int))->Q (some (.ret,fr',Z)))
  (q2:pr a=false->∀fr':Fr,fr'.n=19->fr'.get 8=some (.int .i64 ((i+1:Nat):Int))->(∀t,t=0\/t=1\/t=7->fr'.get t=fr.get t)->Q (some (.normal,fr',Z))):Q (ev E (N+c+20) (ix [1,0,1,2,2]) fr Z):=by
 have hil:=(AI.1 ha).1;have hlt:decide ((i:Int)<(l.length:Int))=true:=BY (by omega);have hrow:(l.map λs=>[ab s])[i]?=some [ab a]:=by simp[ha]
 have hidx:indexAddr E 24 (.bV g (l.map λs=>[ab s]) full) (.int .i64 (i:Int))=some (.cR g [.str a]):=by
  simp only[indexAddr,h44,h9];rw[an (by omega),dx,hrow];simp
 have hadd:wr .i64 (Ld (i:Int) 1)=((i+1:Nat):Int):=U_ (by omega);simp only[ix,Cm,aA,pf,ay];cases hp:pr a with
 |true=>
  have hc:∀d,iH E (ev E (N+c+d)) k (.str a::caps) Z=some (.bool true,Z):=λd=>by
   rw[show N+c+d=(N+d)+c by omega,hcl,hp]
  simp only[MN,KR,DW,MO,DY,DX,gY,cE,aS,eJ,bf,cW,bN,lD,comp,iS,eY,cB,ck,Fr.aJ,Fr.a_,hn,δ,ε,da,b9,reduceCtorEq,h9,loadAt,isAgg,bin,arith,ai,cz,j6,jH,ey,g0,g1,g7,g8,hlt,hidx,hc];refine q1 hp _ ?_;simp only[Fr.aJ,Fr.a_,hn,δ,ε,da,bf,b9]
 |false=>
  have hc:∀d,iH E (ev E (N+c+d)) k (.str a::caps) Z=some (.bool false,Z):=λd=>by
   rw[show N+c+d=(N+d)+c by omega,hcl,hp]
  simp only[MN,DW,MO,DY,DX,gY,cE,aS,eJ,ofValue,bI,bf,cW,bN,lD,comp,iS,eY,cB,ck,Fr.aJ,Fr.a_,hn,δ,ε,da,b9,reduceCtorEq,h9,loadAt,isAgg,bin,arith,ai,cz,j6,jH,ey,g0,g1,g7,g8,hlt,hidx,hc,hadd];refine q2 hp _ ?_ ?_ ?_
  ·simp only[Fr.a_,hn]
  ·simp only[Fr.aJ,Fr.a_,hn,δ,ε,da,bf,b9]
  ·intro t ht;simp only[Fr.aJ]
   repeat (rw[an (by omega)])
theorem Q_(h196:E.ty 209=some { kd:=.map 9 3,size:=1,bytes:=8,zero:=.cA })(h111:E.ty 107=some { kd:=.map 9 24,size:=1,bytes:=8,zero:=.cA })(h44:E.ty 24=some { kd:=.sl 9,size:=1,bytes:=24,zero:=.aG })
  (h9:E.ty 9=some { kd:=.str,size:=1,bytes:=16,zero:=.str [] })(h3:E.ty 3=some { kd:=.int .i64,size:=1,bytes:=8,zero:=.int .i64 0 })(h4:E.ty 4=some { kd:=.bool,size:=1,bytes:=1,zero:=.bool false })
  {pr:List Nat->Bool}{k c:Nat}{caps:List V}{Z:Sg}(hcl:∀n nx,iH E (ev E (n+c)) k (.str nx::caps) Z=some (.bool (pr nx),Z)){g full:Bool}{l:List (List Nat)}(hlen:l.length<=4000000000000000000){idx:Nat}{a:List Nat}(ha:l[idx]?=some a)(hpa:pr a=true)(hno:∀j x,j<idx->l[j]?=some x->pr x=false)(N:Nat) :
  ∀(m i:Nat)(fr:Fr),m+i=idx->fr.n=19->fr.get 0=some (.bV g (l.map λs=>[ab s]) full)->fr.get 1=some (.fn k [] caps)->fr.get 7=some (.int .i64 (l.length:Int))->fr.get 8=some (.int .i64 (i:Int)) ->
   ∃fr',ev E (N+m+c+21) (.loop (ix [1,0,1,2,2])) fr Z=some (.ret,fr',Z)/\fr'.get 4=some (.int .i64 (idx:Int)):=by
 have hil:=(AI.1 ha).1;intro m
 induction m with
 |zero=>
  intro i fr hi hn g0 g1 g7 g8;have hii:i=idx:=by omega
  subst hii;show ∃fr',ev E ((N+c+20)+1) _ _ _=_/\_;rw[Je];refine FK (Q:=λr=>∃fr',wV E (N+c+20) (ix [1,0,1,2,2]) r=some (.ret,fr',Z)/\fr'.get 4=some (.int .i64 (i:Int))) h196 h111 h44 h9 h3 h4 hcl hlen ha N fr hn g0 g1 g7 g8 (λ_ fr' k1=>⟨fr',rfl,k1⟩) (λh=>?_);rw[hpa]at h;cases h
 |succ m ih=>
  intro i fr hi hn g0 g1 g7 g8;obtain⟨x,hx⟩:∃x,l[i]?=some x:=⟨_,AT (by omega)⟩;show ∃fr',ev E ((N+(m+1)+c+20)+1) _ _ _=_/\_;rw[Je];refine FK (Q:=λr=>∃fr',wV E (N+(m+1)+c+20) (ix [1,0,1,2,2]) r=some (.ret,fr',Z)/\fr'.get 4=some (.int .i64 (idx:Int))) h196 h111 h44 h9 h3 h4 hcl hlen hx (N+(m+1)) fr hn g0 g1 g7 g8 (λh=>?_) (λ_ fr' k1 k2 k3=>?_)
  ·rw[hno i x (by omega) hx]at h;cases h
  ·obtain⟨fr2,h1,h2⟩:=ih (i+1) fr' (by omega) k1 (by rw[k3 0 (by omega)];exact g0) (by rw[k3 1 (by omega)];exact g1) (by rw[k3 7 (by omega)];exact g7) k2;refine⟨fr2,?_,h2⟩;simp only[wV];rw[show N+(m+1)+c+20=N+m+c+21 by omega];exact h1
theorem N_(h196:E.ty 209=some { kd:=.map 9 3,size:=1,bytes:=8,zero:=.cA })(h111:E.ty 107=some { kd:=.map 9 24,size:=1,bytes:=8,zero:=.cA })(h44:E.ty 24=some { kd:=.sl 9,size:=1,bytes:=24,zero:=.aG })
  (h9:E.ty 9=some { kd:=.str,size:=1,bytes:=16,zero:=.str [] })(h3:E.ty 3=some { kd:=.int .i64,size:=1,bytes:=8,zero:=.int .i64 0 })(h4:E.ty 4=some { kd:=.bool,size:=1,bytes:=1,zero:=.bool false })
  {pr:List Nat->Bool}{k c:Nat}{caps:List V}{Z:Sg}(hcl:∀n nx,iH E (ev E (n+c)) k (.str nx::caps) Z=some (.bool (pr nx),Z)){g full:Bool}{l:List (List Nat)}(hlen:l.length<=4000000000000000000){idx:Nat}{a:List Nat}(ha:l[idx]?=some a)(hpa:pr a=true)(hno:∀j x,j<idx->l[j]?=some x->pr x=false)(N:Nat) :
  enter E (ev E (N+idx+c+26)) (aA pf) [.bV g (l.map λs=>[ab s]) full,.fn k [] caps] Z=some (.int .i64 (idx:Int),Z):=by
 obtain⟨fr,hf,hn,hg⟩:=Fr.DI (n:=(aA pf).ntmps) (vs:=[.bV g (l.map λs=>[ab s]) full,.fn k [] caps]) (show 2<=19 by decide);have g0:=hg 0 _ rfl;have g1:=hg 1 _ rfl;have hn:fr.n=19:=hn;unfold enter;rw[hf];have e1:(aA pf).code=.seq (ix [0]) (.seq (.seq (ix [1,0,0]) (.block 0 (.loop (ix [1,0,1,2,2])))) (ix [1,1])):=rfl;rw[e1];generalize hL:Code.loop (ix [1,0,1,2,2])=L;generalize hR:ix [1,1]=R;simp only[ix,Cm,aA,pf,ay];simp only[DW,DY,DX,gY,cE,aS,eJ,ofValue,bI,bf,cW,bN,lD,comp,aT,eN,builtin,ck,Fr.aJ,Fr.a_,hn,bh,cn,δ,ε,da,b9,reduceCtorEq,h44,h9,gw,V.cells,ac,g0,lenOf,bw];rw[<- hL]
 have key:∀fr:Fr,fr.n=19->fr.get 0=some (.bV g (l.map λs=>[ab s]) full)->fr.get 1=some (.fn k [] caps)->fr.get 7=some (.int .i64 (l.length:Int))->fr.get 8=some (.int .i64 0) ->
   ∃fr',ev E (N+idx+c+22) (.loop (ix [1,0,1,2,2])) fr Z=some (.ret,fr',Z)/\fr'.get 4=some (.int .i64 (idx:Int)):=by
  intro fr hn g0 g1 g7 g8;have:=Q_ h196 h111 h44 h9 h3 h4 hcl hlen ha hpa hno (N+1) idx 0 fr (by omega) hn g0 g1 g7 g8
  rwa [show N+1+idx+c+21=N+idx+c+22 by omega]at this
 generalize hfx:Fr.put (Fr.put (Fr.put (Fr.put fr 4 _) 6 _) 7 _) 8 _=fx;obtain⟨fr',k1,k2⟩:=key fx (by rw[<- hfx];simp only[Fr.a_,hn]) (by rw[<- hfx];simp only[Fr.aJ,Fr.a_,hn,δ,ε,da,b9,g0]) (by rw[<- hfx];simp only[Fr.aJ,Fr.a_,hn,δ,ε,da,b9,g1]) (by rw[<- hfx];simp only[Fr.aJ,Fr.a_,hn,δ,ε,da,bf,b9]) (by rw[<- hfx];simp only[Fr.aJ,Fr.a_,hn,δ,ε,da,bf,b9]);rw[k1];simp only[results,k2]
theorem wN{α:Type}{F:α->Option α}:∀{l:List α},(∀x∈l,F x=some x)->aW F l=some l
 | [],_=>rfl
 |x::l,h=>by
  simp only[aW,h x (No ..),wN λy hy=>h y (ae _ hy)]
theorem PN{Z:Sg}{ty:Nat->Option Ty}{n b:Nat}{fe:List (V × V)}(hb:Z[b]?=some (.map fe))(h:nJ fe):bA Z ty true (n+2) (.mp b)=some (.imp true fe):=by
 rw[bA];simp only[hb];rw[wN];intro e he;obtain⟨k,m,rfl⟩:=h e he;simp[bA,cI,V.cells,plainCell]
theorem uU{Z:Sg}{ty:Nat->Option Ty}{b t:Nat}{c c':V}(hb:Z[b]?=some (.cells t [c] true))(hc:bA Z ty true 11 c=some c')(ht:cI true c'=true):aR.one Z ty true (.ref b 0)=some (.cR true [c']):=by
 unfold aR.one;rw[show dN=11+1 from rfl,bA];simp only[hb,ez,aW,hc,ht,bf];rfl
theorem Rb(h196:E.ty 209=some { kd:=.map 9 3,size:=1,bytes:=8,zero:=.cA })(h111:E.ty 107=some { kd:=.map 9 24,size:=1,bytes:=8,zero:=.cA })(h44:E.ty 24=some { kd:=.sl 9,size:=1,bytes:=24,zero:=.aG })
  (h9:E.ty 9=some { kd:=.str,size:=1,bytes:=16,zero:=.str [] })(h3:E.ty 3=some { kd:=.int .i64,size:=1,bytes:=8,zero:=.int .i64 0 })(h4:E.ty 4=some { kd:=.bool,size:=1,bytes:=1,zero:=.bool false })(f1:E.hspec 80=none)(f2:E.spec 80=none)(f3:E.fn 80=some (aA pf))(f4:E.mode 80=.eW)(f5:E.hspec 190=none)(f6:E.spec 190=none)(f7:E.fn 190=some (aA Tryz.f190))(f8:E.mode 190=.shared)
  {fe:List (V × V)}(hok:nJ fe){Z:Sg}{B:Nat}(s0:Z[0]?=some (.map fe))(s1:Z[1]?=some (.cells 209 [.mp 0] true)){b:Nat}(sB:Z[B]?=some (.cells 3 [.int .i64 (b:Int)] true)){lv:V}{l:List (List Nat)}(hl:SV lv l)(hlen:l.length<=4000000000000000000)
  {idx:Nat}{a:List Nat}(ha:l[idx]?=some a)(hpa:bC fe a=some b)(hno:∀j x,j<idx->l[j]?=some x->bC fe x≠some b)(N:Nat) :
  iH E (ev E (N+l.length+40)) 80 [lv,.fn 190 [] [.ref 1 0,.ref B 0]] Z=some (.int .i64 (idx:Int),Z):=by
 obtain⟨g,full,rfl⟩:∃g full,lv=.bV g (l.map λs=>[ab s]) full:=by
  rcases hl with⟨_,rfl⟩ | h
  ·simp at ha
  ·exact h
 have hil:=(AI.1 ha).1
 have hsn:aW (aR Z E.ty true) [.bV g (l.map λs=>[ab s]) full,.fn 190 [] [.ref 1 0,.ref B 0]]=some [.bV g (l.map λs=>[ab s]) full,.fn 190 [] [.cR true [.imp true fe],.cR true [.int .i64 (b:Int)]]]:=by
  have k1:=uU (ty:=E.ty) s1 (PN (n:=9) s0 hok) rfl;have k2:=uU (ty:=E.ty) sB (c':=.int .i64 (b:Int)) (by simp only[bA]) rfl
  have k3:aR Z E.ty true (.bV g (l.map λs=>[ab s]) full)=some (.bV g (l.map λs=>[ab s]) full):=by
   simp only[aR,aR.one,dN,bA,cI,Bool.true_or,bf]
  have k4:aR Z E.ty true (.fn 190 [] [.ref 1 0,.ref B 0])=some (.fn 190 [] [.cR true [.imp true fe],.cR true [.int .i64 (b:Int)]]):=by
   simp only[aR,aW,k1,k2]
  simp only[aW,k3,k4]
 have hcl:∀n nx,iH E (ev E (n+11)) 190 (.str nx::[.cR true [.imp true fe],.cR true [.int .i64 (b:Int)]]) []=some (.bool (decide (bC fe nx=some b)),[]):=λn nx=>by
  have:=UK h196 h111 h44 h9 h3 h4 hok (n+1) nx (g1:=true) (g2:=true) (g3:=true) b [];unfold iH;simp only[f5,f6,f7,f8];rw[show n+11=n+1+10 by omega,this]
 have hen:=N_ h196 h111 h44 h9 h3 h4 (Z:=[]) hcl (g:=g) (full:=full) hlen ha (by simp[hpa]) (λj x hj hx=>by simp[hno j x hj hx]) (N+l.length-idx+3);rw[show N+l.length-idx+3+idx+11+26=N+l.length+40 by omega]at hen;unfold iH;simp only[f1,f2,f3,f4,hsn,hen,cQ,aR,aR.one,dN,bA,cI,bf]
theorem Mr(h196:E.ty 209=some { kd:=.map 9 3,size:=1,bytes:=8,zero:=.cA })(h111:E.ty 107=some { kd:=.map 9 24,size:=1,bytes:=8,zero:=.cA })(h44:E.ty 24=some { kd:=.sl 9,size:=1,bytes:=24,zero:=.aG })
  (h9:E.ty 9=some { kd:=.str,size:=1,bytes:=16,zero:=.str [] })(h3:E.ty 3=some { kd:=.int .i64,size:=1,bytes:=8,zero:=.int .i64 0 })(h4:E.ty 4=some { kd:=.bool,size:=1,bytes:=1,zero:=.bool false })
  {fr:Fr}{Z:Sg}{x:Nat}{s:List Nat}(h:aS fr (.tmp x)=some (.str s)):fL E fr Z 24 1 #[(0,.tmp x)]=some (.sl Z.length 0 1 none,Z++[.cells 9 [.str s] true]):=by
 simp[fL,h44,h9,lX,h,fill,gG,V.cells,V.aZ,ac]
theorem K7(h196:E.ty 209=some { kd:=.map 9 3,size:=1,bytes:=8,zero:=.cA })(h111:E.ty 107=some { kd:=.map 9 24,size:=1,bytes:=8,zero:=.cA })(h44:E.ty 24=some { kd:=.sl 9,size:=1,bytes:=24,zero:=.aG })
  (h9:E.ty 9=some { kd:=.str,size:=1,bytes:=16,zero:=.str [] })(h3:E.ty 3=some { kd:=.int .i64,size:=1,bytes:=8,zero:=.int .i64 0 })(h4:E.ty 4=some { kd:=.bool,size:=1,bytes:=1,zero:=.bool false })
  {Z:Sg}{C:Nat}{cs:List V}{ex:Bool}{v:V}(hC:Z[C]?=some (.cells 9 cs ex))(hlen:cs.length<=2000000) :
  append E (Z++[.cells 9 [v] true]) #[24,24] (.sl C 0 cs.length none) (.sl Z.length 0 1 none)=some (.sl (Z.length+1) 0 (cs.length+1) none,(if ex then Z else Z.set C .dead)++[.cells 9 [v] true]++[.cells 9 (cs++[v]) false]):=by
 have hCl:=(AI.1 hC).1;have hC':(Z++[.cells 9 [v] true])[C]?=some (.cells 9 cs ex):=by rw[au hCl];exact hC
 have hD:(Z++[.cells 9 [v] true])[Z.length]?=some (.cells 9 [v] true):=by simp
 have hr:roomy (cs.length+1) 16=true:=by
  unfold roomy;rw[af];omega
 have hp:eD E #[24,24]=true:=by
  simp[eD,h44,A6]
 have he:elems (Z++[.cells 9 [v] true]) 1 (.sl Z.length 0 1 none)=some ([v],1):=by
  simp only[elems,hD];simp
 unfold append;simp only[cn,bh,h44,h9,hp,he,hC',hr];cases ex with
 |true=>simp;intro h;omega
 |false=>simp[List.set_append_left _ _ hCl];intro h;omega
theorem sub1{b:Nat}(h0:0<b)(h:b<=1000000):wr .i64 (SL (b:Int) 1)=((b-1:Nat):Int):=by
 have e:(2:Int) ^ IntKind.i64.bits=18446744073709551616:=by decide
 have e2:(2:Int) ^ (IntKind.i64.bits-1)=9223372036854775808:=by decide
 have e3:IntKind.i64.signed=true:=rfl;rw[Gx,Bq];unfold IntKind.wrap;simp only[e,e2,e3,jd,af];split <;> omega
theorem De(h196:E.ty 209=some { kd:=.map 9 3,size:=1,bytes:=8,zero:=.cA })(h111:E.ty 107=some { kd:=.map 9 24,size:=1,bytes:=8,zero:=.cA })(h44:E.ty 24=some { kd:=.sl 9,size:=1,bytes:=24,zero:=.aG })
  (h9:E.ty 9=some { kd:=.str,size:=1,bytes:=16,zero:=.str [] })(h3:E.ty 3=some { kd:=.int .i64,size:=1,bytes:=8,zero:=.int .i64 0 })(h4:E.ty 4=some { kd:=.bool,size:=1,bytes:=1,zero:=.bool false })(f1:E.hspec 80=none)(f2:E.spec 80=none)(f3:E.fn 80=some (aA pf))(f4:E.mode 80=.eW)(f5:E.hspec 190=none)(f6:E.spec 190=none)(f7:E.fn 190=some (aA Tryz.f190))(f8:E.mode 190=.shared)
  {es:List (V × V)}{g:Bool}(hbk:gQ es){fe:List (V × V)}(hok:nJ fe){fr:Fr}(hn:fr.n=119){B C:Nat}{at_:List Nat}{cs:List V}{ex:Bool}(g0:fr.get 0=some (.imp g es))(g5:fr.get 5=some (.ref 1 0))(g15:fr.get 15=some (.ref B 0))(g20:fr.get 20=some (.sl C 0 cs.length none))(g21:fr.get 21=some (.str at_))
  {Z:Sg}{b:Nat}(s0:Z[0]?=some (.map fe))(s1:Z[1]?=some (.cells 209 [.mp 0] true))(sB:Z[B]?=some (.cells 3 [.int .i64 (b:Int)] true))(sC:Z[C]?=some (.cells 9 cs ex))(hBC:B≠C)(hB:2<=B)(hC:2<=C)(hlen:cs.length<=2000000)(hb:b<=1000000){K:Nat}(hK:K<=4000000000000000000)(hl:(cC es at_).length<=K)(N:Nat){Q:X->Fr->Sg->Prop}
  (q0:b=0->∀fr':Fr,fr'.n=119->(∀t,t<99->fr'.get t=fr.get t)->Q (.exit 8) fr' Z)
  (q1:0<b->∃(idx:Nat) (a:List Nat),(cC es at_)[idx]?=some a/\bC fe a=some b/\(∀j x,j<idx->(cC es at_)[j]?=some x->bC fe x≠some b) /\
   ∀(fr':Fr)(σ':Sg)(C':Nat),fr'.n=119->(∀t,t<20->fr'.get t=fr.get t)->fr'.get 20=some (.sl C' 0 (cs++[ab a]).length none)->fr'.get 21=some (.str a)->σ'[0]?=some (.map fe)->σ'[1]?=some (.cells 209 [.mp 0] true)->σ'[B]?=some (.cells 3 [.int .i64 ((b-1:Nat):Int)] true)->σ'[C']?=some (.cells 9 (cs++[.str a]) false)->B≠C'->2<=C'->Q .normal fr' σ') :
  eV E (N+K+70) (bk [1,1,1,1,1,1,1,0,1,2,2]) fr Z Q:=by
 by_cases hb0:b=0
 ·have hcmp:decide ((0:Int)<(b:Int))=false:=AS (by omega);simp only[bk,Cm,aA,eh,ay];simp only[fC,fU,dA,fD,dB,dI,cV,eA,cE,aS,eJ,ofValue,bI,bf,cW,bN,lD,comp,Fz.apps,Fz.lits,aT,eB,iS,kG,eY,cB,eN,builtin,ck,Fr.aJ,Fr.a_,hn,bh,cn,δ,ε,da,b9,h111,h44,h9,h3,loadAt,storeAt,isAgg,lookup,eH,bm,cH h9,bin,arith,ai,gw,V.cells,ac,jH,g15,sB,hcmp];refine q0 hb0 _ (by simp only[Fr.a_,hn]) λt ht=>?_;simp only[Fr.aJ]
  repeat (rw[an (by omega)])
 ·obtain⟨idx,a,ha,hpa,hno,q1⟩:=q1 (by omega);have hcmp:decide ((0:Int)<(b:Int))=true:=BY (by omega);obtain⟨r,hr1,hr2⟩:=DV (x:=at_) hbk;have hsv:=yT (x:=at_) hbk
  have hcall:∀d,iH E (ev E (N+K+(d+40))) 80 [valOf es at_,.fn 190 [] [.ref 1 0,.ref B 0]] Z=some (.int .i64 (idx:Int),Z):=λd=>by
   have:=Rb h196 h111 h44 h9 h3 h4 f1 f2 f3 f4 f5 f6 f7 f8 hok s0 s1 sB hsv (by omega) ha hpa hno (N+K-(cC es at_).length+d);rw[show N+K-(cC es at_).length+d+(cC es at_).length+40=N+K+(d+40) by omega]at this;exact this
  obtain⟨gg,full,hv⟩:∃gg full,valOf es at_=.bV gg ((cC es at_).map λs=>[ab s]) full:=by
   rcases hsv with⟨_,h⟩ | h
   ·rw[h]at ha;simp at ha
   ·exact h
  have hr3:jA jZ (.str at_) es=some (some (valOf es at_)):=by
   cases r with
   |none=>rw[hv]at hr2;cases hr2
   |some v=>rw[hr1];simp only[ay]at hr2;rw[hr2]
  have hrow:((cC es at_).map λs=>[ab s])[idx]?=some [ab a]:=by simp[ha]
  have hidx:indexAddr E 24 (valOf es at_) (.int .i64 (idx:Int))=some (.cR gg [.str a]):=by
   rw[hv];simp only[indexAddr,h44,h9];rw[an (by omega),dx,hrow];simp
  have hlit:∀(fr:Fr)(x:Nat)(s:List Nat),aS fr (.tmp x)=some (.str s)->fL E fr Z 24 1 #[(0,.tmp x)]=some (.sl Z.length 0 1 none,Z++[.cells 9 [.str s] true]):=λfr x s h=>Mr h196 h111 h44 h9 h3 h4 h;have happ:=K7 h196 h111 h44 h9 h3 h4 (v:=.str a) sC hlen;simp only[bk,Cm,aA,eh,ay];simp only[fC,fU,dA,fD,dB,dI,cV,eA,cE,aS,eJ,ofValue,bI,bf,cW,bN,lD,comp,Fz.apps,Fz.lits,aT,eB,iS,kG,eY,cB,eN,builtin,ck,Fr.aJ,Fr.a_,hn,bh,cn,δ,ε,da,b9,reduceCtorEq,h111,h44,h9,h3,loadAt,storeAt,isAgg,lookup,eH,bm,cH h9,bin,arith,dm,ai,gw,V.cells,ac,cz,gy,j6,jH,jT,g0,g5,g15,g20,g21,sB,hcmp,hr3,hcall,hidx];generalize hfx:Fr.put _ 115 _=fx;have x115:aS fx (.tmp 115)=some (.str a):=by rw[<- hfx];simp only[aS,Fr.aJ,Fr.a_,hn,δ,ε,da,bf,b9]
  have x114:fx.get 114=some (.sl C 0 cs.length none):=by rw[<- hfx];simp only[Fr.aJ,Fr.a_,hn,δ,ε,da,bf,b9]
  have x21:fx.get 21=some (.str a):=by rw[<- hfx];simp only[Fr.aJ,Fr.a_,hn,δ,ε,da,bf,b9]
  have x15:fx.get 15=some (.ref B 0):=by rw[<- hfx];simp only[Fr.aJ,Fr.a_,hn,δ,ε,da,b9,g15]
  have xlo:∀t,t<20->fx.get t=fr.get t:=by
   intro t ht;rw[<- hfx];simp only[Fr.aJ]
   repeat (rw[an (by omega)])
  have xn:fx.n=119:=by rw[<- hfx];simp only[Fr.a_,hn]
  clear hfx;rw[hlit fx 115 a x115];have hn:=xn;obtain⟨Y,hτ⟩:∃Y,(if ex then Z else Z.set C .dead)++[O.cells 9 [.str a] true]++[O.cells 9 (cs++[.str a]) false]=Y:=⟨_,rfl⟩;rw[hτ]at happ;have hBl:=(AI.1 sB).1
  have hin:∀j o,j≠C->Z[j]?=some o->Y[j]?=some o:=by
   intro j o hj ho;have hjl:=(AI.1 ho).1;rw[<- hτ];cases ex with
   |true=>
    simp only[bf];rw[cw,au hjl];exact ho
   |false=>
    simp only[ai,b9];rw[cw,au (by simpa using hjl),aa (λe=>hj e.symm)];exact ho
  have t0:=hin 0 _ (by omega) s0;have t1:=hin 1 _ (by omega) s1;have tB:=hin B _ hBC sB;have tlen:(if ex then Z else Z.set C .dead).length=Z.length:=by cases ex <;> simp
  have tC:Y[Z.length+1]?=some (.cells 9 (cs++[.str a]) false):=by
   rw[<- hτ,bg (by simp[tlen])];simp[tlen]
  have hsub:=sub1 (by omega:0<b) hb;simp only[bf,ck,Fr.aJ,Fr.a_,hn,bh,δ,ε,da,b9,V.aZ,qa,qi,qf,IT,aq,jq,cz,mz,gy,dc,iy,ki,OF,mc,happ,x114,x15,tB,hsub];refine q1 _ _ (Z.length+1) ?_ ?_ ?_ ?_ ?_ ?_ ?_ ?_ ?_ ?_
  ·simp only[Fr.a_,hn]
  ·intro t ht;simp only[Fr.aJ]
   repeat (rw[an (by omega)])
   exact xlo t ht
  ·simp only[Fr.aJ,Fr.a_,hn,δ,ε,da,bf,b9,By,IT,aq]
  ·simp only[Fr.aJ,Fr.a_,hn,δ,ε,da,b9,x21]
  ·rw[aa (by omega)];exact t0
  ·rw[aa (by omega)];exact t1
  ·have:=(AI.1 tB).1;simp[this]
  ·rw[aa (by omega)];exact tC
  ·omega
  ·omega
end
end
end Go.Ax
end
