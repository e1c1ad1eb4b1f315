/- Part 13 of the proof. -/
import Derived.Shelf.Small.Bits
import Derived.Shelf.Small.Strs
import Derived.Shelf.Strconv.Itoa0
import Derived.Shelf.Strings.Search1
import Derived.Shelf.Strings.Search2
import Derived.Shelf.Strings.Search3
import Derived.Shelf.Strings.Cut
import Derived.Shelf.Strings.Count
import Derived.Shelf.LaysM
import Derived.Shelf.Strings.Shaped
import Derived.Shelf.Strings.Split
import Derived.Shelf.Unicode.DecodeSlow
import Derived.Ground.SlgmProg
import Derived.Shelf.SortM.Plain
import Derived.Shelf.SortM.SortNone
import Derived.Test.YtlbbdpkjeeiahaaGreatDoorProg
import Derived.Test.YtlbbdpkjeeiahaaGreatDoorZ2
import Derived.Test.YtlbbdpkjeeiahaaGreatDoorZ3
import Derived.Lib.Bytealg
import Derived.Lib.Split
import Derived.Lib.SplitLaws
import Derived.Lib.IndexBytes
import Derived.Lib.MakeNoZero
import Derived.KernelRfl
set_option maxHeartbeats 8000000
set_option linter.unusedVariables false
open Nat (reduceEqDiff reduceLT)
open List (map_cons length_map mem_cons_self mem_cons nodup_append nodup_cons length_cons mem_cons_of_mem mem_map getElem?_set_ne getElem?_cons_zero getElem?_cons_succ getElem?_append_left append_assoc mem_singleton getElem?_toArray length_nil take_zero append_nil drop_nil)
section
namespace Go.Proofs
open Go.Shelf
section
def Tryz.lays137_ren:Go.Shelf.Ren:=⟨fun | 137=>254 | 217=>288 | 266=>309 | n=>n,fun | 9=>9 | 5=>5 | 3=>3 | n=>n,fun | n=>n⟩
theorem Tryz.lays137:Go.Proofs.Lays.n137 Tryz.prog Tryz.lays137_ren:={
 mixed:=by kernel_rfl
 f137:=Tryz.func254.trans (congrArg some (by kernel_rfl))
 f217:=Tryz.func288.trans (congrArg some (by kernel_rfl))
 f266:=Tryz.func309.trans (congrArg some (by kernel_rfl))
 t3:=Tryz.underlying3
 a3:=Tryz.isAgg3
 z3:=Tryz.sizeOf3
 v3:=Tryz.zeroValue3
 t5:=Tryz.underlying5
 a5:=Tryz.isAgg5
 z5:=Tryz.sizeOf5
 v5:=Tryz.zeroValue5
 t9:=Tryz.underlying9
 a9:=Tryz.isAgg9
 z9:=Tryz.sizeOf9
 v9:=Tryz.zeroValue9 }
open Go.RowKit in
theorem Tryz.strings_IndexByte (s:ByteArray) (c:Int) (w:World) :
  Calls Tryz.prog 254 #[.string s,.int .u8 c] w fun e w'=>e = .returned (.int .i64 (Lib.indexByte s.data.toList c.toNat.toUInt8)) /\ w' = w:=Any.strings_IndexByte Tryz.lays137 s c w
def Tryz.lays145_ren:Go.Shelf.Ren:=⟨fun | 145=>295 | 220=>311 | 219=>282 | 217=>288 | 225=>302 | 224=>303 | 267=>304 | 266=>309 | 314=>316 | n=>n,fun | 9=>9 | 4=>4 | 59=>293 | 3=>3 | 5=>5 | 46=>142 | 146=>309 | 51=>179 | n=>n,fun | 1=>0 | n=>n⟩
theorem Tryz.lays145:Go.Proofs.Lays.n145 Tryz.prog Tryz.lays145_ren:={
 mixed:=by kernel_rfl
 f145:=Tryz.func295.trans (congrArg some (by kernel_rfl))
 f217:=Tryz.func288.trans (congrArg some (by kernel_rfl))
 f219:=Tryz.func282.trans (congrArg some (by kernel_rfl))
 f220:=Tryz.func311.trans (congrArg some (by kernel_rfl))
 f224:=Tryz.func303.trans (congrArg some (by kernel_rfl))
 f225:=Tryz.func302.trans (congrArg some (by kernel_rfl))
 f266:=Tryz.func309.trans (congrArg some (by kernel_rfl))
 f267:=Tryz.func304.trans (congrArg some (by kernel_rfl))
 f314:=Tryz.func316.trans (congrArg some (by kernel_rfl))
 t3:=Tryz.underlying3
 a3:=Tryz.isAgg3
 z3:=Tryz.sizeOf3
 v3:=Tryz.zeroValue3
 t4:=Tryz.underlying4
 a4:=Tryz.isAgg4
 z4:=Tryz.sizeOf4
 v4:=Tryz.zeroValue4
 t5:=Tryz.underlying5
 a5:=Tryz.isAgg5
 z5:=Tryz.sizeOf5
 v5:=Tryz.zeroValue5
 t9:=Tryz.underlying9
 a9:=Tryz.isAgg9
 z9:=Tryz.sizeOf9
 v9:=Tryz.zeroValue9
 t46:=Tryz.underlying142
 a46:=Tryz.isAgg142
 z46:=Tryz.sizeOf142
 v46:=Tryz.zeroValue142
 t51:=Tryz.underlying179
 a51:=Tryz.isAgg179
 z51:=Tryz.sizeOf179
 v51:=Tryz.zeroValue179
 t59:=Tryz.underlying293
 a59:=Tryz.isAgg293
 z59:=Tryz.sizeOf293
 v59:=Tryz.zeroValue293
 t146:=Tryz.underlying309
 a146:=Tryz.isAgg309
 z146:=Tryz.sizeOf309
 v146:=Tryz.zeroValue309
 g1:=by kernel_rfl }
open Go.RowKit Go.Lib in
theorem Tryz.strings_Cut (s sep:ByteArray) (m:Int) (w:World) (hs:s.size < 4294967281) (hm:w.cell? ⟨0,0,none⟩ = some (.int .i64 m)) :
  Calls Tryz.prog 295 #[.string s,.string sep] w fun e w'=>e = .returned (.tuple #[.string ⟨(Lib.cut s.data.toList sep.data.toList).1.toArray⟩,.string ⟨(Lib.cut s.data.toList sep.data.toList).2.1.toArray⟩,.bool (Lib.cut s.data.toList sep.data.toList).2.2]) /\ ∃ n,w' = w.drewN n:=Any.strings_Cut Tryz.lays145 s sep m w hs hm
def Tryz.lays146_ren:Go.Shelf.Ren:=⟨fun | 146=>171 | 221=>205 | 268=>238 | 138=>239 | 143=>240 | 195=>279 | 197=>280 | 218=>281 | 219=>282 | 260=>301 | 217=>288 | 225=>302 | 224=>303 | 267=>304 | 266=>309 | 314=>316 | n=>n,fun | 9=>9 | 31=>28 | 3=>3 | 4=>4 | 0=>0 | 105=>285 | 21=>21 | 5=>5 | 46=>142 | 119=>305 | 139=>308 | 138=>307 | 146=>309 | 51=>179 | n=>n,fun | 1=>0 | 3=>1 | 4=>2 | n=>n⟩
theorem Tryz.lays146:Go.Proofs.Lays.n146 Tryz.prog Tryz.lays146_ren:={
 mixed:=by kernel_rfl
 f138:=Tryz.func239.trans (congrArg some (by kernel_rfl))
 f143:=Tryz.func240.trans (congrArg some (by kernel_rfl))
 f146:=Tryz.func171.trans (congrArg some (by kernel_rfl))
 f195:=Tryz.func279.trans (congrArg some (by kernel_rfl))
 f197:=Tryz.func280.trans (congrArg some (by kernel_rfl))
 f217:=Tryz.func288.trans (congrArg some (by kernel_rfl))
 f218:=Tryz.func281.trans (congrArg some (by kernel_rfl))
 f219:=Tryz.func282.trans (congrArg some (by kernel_rfl))
 f221:=Tryz.func205.trans (congrArg some (by kernel_rfl))
 f224:=Tryz.func303.trans (congrArg some (by kernel_rfl))
 f225:=Tryz.func302.trans (congrArg some (by kernel_rfl))
 f260:=Tryz.func301.trans (congrArg some (by kernel_rfl))
 f266:=Tryz.func309.trans (congrArg some (by kernel_rfl))
 f267:=Tryz.func304.trans (congrArg some (by kernel_rfl))
 f268:=Tryz.func238.trans (congrArg some (by kernel_rfl))
 f314:=Tryz.func316.trans (congrArg some (by kernel_rfl))
 t0:=Tryz.underlying0
 a0:=Tryz.isAgg0
 z0:=Tryz.sizeOf0
 v0:=Tryz.zeroValue0
 t3:=Tryz.underlying3
 a3:=Tryz.isAgg3
 z3:=Tryz.sizeOf3
 v3:=Tryz.zeroValue3
 t4:=Tryz.underlying4
 a4:=Tryz.isAgg4
 z4:=Tryz.sizeOf4
 v4:=Tryz.zeroValue4
 t5:=Tryz.underlying5
 a5:=Tryz.isAgg5
 z5:=Tryz.sizeOf5
 v5:=Tryz.zeroValue5
 t9:=Tryz.underlying9
 a9:=Tryz.isAgg9
 z9:=Tryz.sizeOf9
 v9:=Tryz.zeroValue9
 t21:=Tryz.underlying21
 a21:=Tryz.isAgg21
 z21:=Tryz.sizeOf21
 v21:=Tryz.zeroValue21
 t31:=Tryz.underlying28
 a31:=Tryz.isAgg28
 z31:=Tryz.sizeOf28
 v31:=Tryz.zeroValue28
 t46:=Tryz.underlying142
 a46:=Tryz.isAgg142
 z46:=Tryz.sizeOf142
 v46:=Tryz.zeroValue142
 t51:=Tryz.underlying179
 a51:=Tryz.isAgg179
 z51:=Tryz.sizeOf179
 v51:=Tryz.zeroValue179
 t105:=Tryz.underlying285
 a105:=Tryz.isAgg285
 z105:=Tryz.sizeOf285
 v105:=Tryz.zeroValue285
 t119:=Tryz.underlying305
 a119:=Tryz.isAgg305
 z119:=Tryz.sizeOf305
 t138:=Tryz.underlying307
 a138:=Tryz.isAgg307
 z138:=Tryz.sizeOf307
 v138:=Tryz.zeroValue307
 t139:=Tryz.underlying308
 a139:=Tryz.isAgg308
 z139:=Tryz.sizeOf308
 v139:=Tryz.zeroValue308
 t146:=Tryz.underlying309
 a146:=Tryz.isAgg309
 z146:=Tryz.sizeOf309
 v146:=Tryz.zeroValue309
 g1:=by kernel_rfl
 g3:=by kernel_rfl
 g4:=by kernel_rfl }
open Go.RowKit Go.Lib in
theorem Tryz.strings_Split (s sep:ByteArray) (m:Int) (w:World) (hs:s.size < 4294967281) (hm:w.cell? ⟨0,0,none⟩ = some (.int .i64 m)) (h1:1 <= sep.size) :
  Calls Tryz.prog 171 #[.string s,.string sep] w fun e w'=>
   e = .returned (.slice (some ⟨w.heap.size,0,none⟩) (Lib.countB s sep + 1) (Lib.countB s sep + 1)) /\ w' = w.alloc (.cells ((Lib.splitB sep 0 (Lib.countB s sep) s).map Value.string).toArray 9):=Any.strings_Split Tryz.lays146 (by kernel_rfl) s sep m w hs hm h1
end
end Go.Proofs
end
section
namespace Go.Ax
open Go
theorem rD (c:Nat) (hc:c < 256):∀ l:List UInt8,Lib.indexByte l c.toUInt8 = match iV c (l.map UInt8.toNat) with | some i=>(i:Int) | none=>-1
 | []=>rfl
 | b :: l=>by
  have ih:=rD c hc l
  have e:(b == c.toUInt8) = decide (b.toNat = c):=by
   have:c.toUInt8.toNat = c:=by simp [Nat.toUInt8]; omega
   rw [Bool.eq_iff_iff]
   simp only [beq_iff_eq,decide_eq_true_eq]
   constructor
   ·intro h; rw [h]; exact this
   ·intro h; exact UInt8.toNat_inj.1 (by rw [h]; exact this.symm)
  simp only [Lib.indexByte,map_cons,iV,e,decide_eq_true_eq]
  by_cases h:b.toNat = c
  ·simp [h]
  ·simp only [h,if_false]
   rw [ih]
   cases iV c (l.map UInt8.toNat) with
   | none=>rfl
   | some i=>
    dsimp only
    rw [if_neg (by simp)]
    simp
end Go.Ax
namespace Go.Ax
open Go Go.Proofs
theorem yE (E:Env):fP Tryz.prog E 254 kE:=by
 intro d vs xs v hσ hs hv h
 unfold kE at h
 split at h
 case h_2=>cases h
 rename_i s c
 split at h
 case isFalse=>cases h
 rename_i hc
 injection h with h; subst h
 cases hv with | cons _ x _ xs hx hr=>
 cases hr with | cons _ y _ ys hy hr=>
 cases hr
 obtain ⟨b,rfl,hb⟩:=hx.eH
 have:=hy.dV; subst this
 refine .inl ⟨Tryz.call254 _ _,(Tryz.strings_IndexByte b c d.w).mono ?_⟩
 rintro e w' ⟨rfl,rfl⟩
 refine ⟨_,rfl,d,rfl,hσ,Ext.refl d,hs,?_⟩
 rw [rD c.toNat (by omega),show b.data.toList.map UInt8.toNat = s from hb]
 exact .inl (.int _ _)
end Go.Ax
namespace Go.Ax
open Go
theorem zV (c:Nat):∀ l:List Nat,iV c l = none -> cE c l = [l]
 | [],_=>rfl
 | a :: r,h=>by
  simp only [iV] at h
  split at h
  ·cases h
  rename_i hne
  split at h
  ·cases h
  rename_i hr
  simp [cE,hne,zV c r hr]
theorem Bj (c:Nat):∀ (l:List Nat) (i:Nat),iV c l = some i -> cE c l = l.take i :: cE c (l.drop (i + 1))
 | [],i,h=>by cases h
 | a :: r,i,h=>by
  simp only [iV] at h
  split at h
  ·rename_i he
   injection h with h; subst h
   simp [cE,he]
  rename_i hne
  split at h
  ·rename_i j hj
   injection h with h; subst h
   simp [cE,hne,Bj c r j hj]
  ·cases h
end Go.Ax
namespace Go.Ax
open Go
theorem vR (s sep:ByteArray) (c:Nat) (hb:bytes sep = [c]):Lib.indexB s sep = match iV c (bytes s) with | some i=>(i:Int) | none=>-1:=by
 have hsz:sep.data.toList.map UInt8.toNat = [c]:=hb
 obtain ⟨u,hu⟩:∃ u,sep.data.toList = [u]:=by
  cases hl:sep.data.toList with
  | nil=>rw [hl] at hsz; cases hsz
  | cons u r=>
   cases r with
   | nil=>exact ⟨u,rfl⟩
   | cons _ _=>rw [hl] at hsz; simp at hsz
 have hc:u.toNat = c:=by rw [hu] at hsz; simpa using hsz
 have e:Lib.indexB s sep = Lib.index s.data.toList sep.data.toList:=rfl
 have hcc:c.toUInt8 = u:=by rw [<- hc]; simp
 rw [e,hu,Lib.index_one,<- hcc,rD c (by rw [<- hc]; exact u.toNat_lt)]
 rfl
end Go.Ax
namespace Go.Ax
open Go
theorem DB (c:Nat):∀ (l:List Nat) (i:Nat),iV c l = some i -> i < l.length
 | [],i,h=>by cases h
 | a :: r,i,h=>by
  simp only [iV] at h
  split at h
  ·injection h with h; subst h; simp
  split at h
  ·rename_i j hj
   injection h with h; subst h
   have:=DB c r j hj
   simp; omega
  ·cases h
theorem LL (sep:ByteArray) (c:Nat) (hb:bytes sep = [c]):∀ (n:Nat) (s:ByteArray),s.size <= n -> (Lib.splitB sep 0 (Lib.countB s sep) s).map bytes = cE c (bytes s) /\ (cE c (bytes s)).length = Lib.countB s sep + 1:=by
 have h1:1 <= sep.size:=by
  have:=congrArg List.length hb
  simp [bytes] at this; omega
 have hsep:sep.size = 1:=by
  have:=congrArg List.length hb
  simpa [bytes] using this
 intro n
 induction n with
 | zero=>
  intro s hs
  have h0:bytes s = []:=by
   have:(bytes s).length = 0:=by
    have:(bytes s).length = s.size:=by simp [bytes]
    omega
   exact List.length_eq_zero_iff.1 this
  have hi:=vR s sep c hb
  rw [h0] at hi
  have hi':Lib.indexB s sep = -1:=hi
  rw [Lib.countB_miss s sep hi',Lib.splitB_zero]
  simp [h0,cE]
 | succ n ih=>
  intro s hs
  have hi:=vR s sep c hb
  cases hx:iV c (bytes s) with
  | none=>
   rw [hx] at hi
   have hi':Lib.indexB s sep = -1:=hi
   rw [Lib.countB_miss s sep hi',Lib.splitB_zero,zV c _ hx]
   simp
  | some i=>
   rw [hx] at hi
   have hi':Lib.indexB s sep = (i:Nat):=hi
   have hlt:=DB c _ _ hx
   have hlen:(bytes s).length = s.size:=by simp [bytes]
   have hrec:=ih (s.extract (i + sep.size) s.size) (by rw [ByteArray.size_extract]; omega)
   rw [Lib.countB_hit s sep i h1 hi',Nat.add_comm 1,Lib.splitB_hit _ _ _ _ i hi',Bj c _ i hx]
   have hd:bytes (s.extract (i + sep.size) s.size) = (bytes s).drop (i + 1):=by
    rw [pL,hsep,List.take_of_length_le (by rw [List.length_drop]; omega)]
   rw [hd] at hrec
   constructor
   ·rw [map_cons,hrec.1,pL]
    simp
   ·simp [hrec.2]
end Go.Ax
namespace Go.Ax
open Go Go.Proofs
theorem Ju {E:Env} (hE:E.gl = DD) {d:Cx} (hs:SR E d):∃ m,d.w.cell? ⟨0,0,none⟩ = some (.int .i64 m):=by
 obtain ⟨o,h1,⟨m,t,fr,rfl⟩,_⟩:=hs.gl 0 (fun o=>∃ m t fr,o = .cells #[.int .i64 m] t fr) (by rw [hE]; rfl)
 exact ⟨m,by rw [mJ h1]; rfl⟩
theorem C5 {w:World} {I:Bool -> Nat -> Prop} {blk:Nat}:∀ (l:List ByteArray) (off:Nat),(∀ (j:Nat) b,l[j]? = some b -> w.cell? ⟨blk,off + j,none⟩ = some (.string b)) ->
  dZ w I 1 ((l.map bytes).map fun p=>[V.str p]) blk off
 | [],_,_=>.nil
 | a :: l,off,h=>by
  refine .cons _ _ rfl (.cons _ _ _ (by simpa using h 0 a rfl) (.str _) .nil) (C5 l (off + 1) fun j b hj=>?_)
  have:=h (j + 1) b (by simpa using hj)
  rwa [show off + (j + 1) = off + 1 + j by omega] at this
theorem Ec (E:Env) (hE:E.gl = DD):fP Tryz.prog E 171 kT:=by
 intro d vs xs v hσ hs hv h
 unfold kT at h
 split at h
 case h_2=>cases h
 rename_i s c
 split at h
 case isFalse=>cases h
 rename_i hc
 injection h with h; subst h
 cases hv with | cons _ x _ xs hx hr=>
 cases hr with | cons _ y _ ys hy hr=>
 cases hr
 obtain ⟨b,rfl,hb⟩:=hx.eH
 obtain ⟨sp,rfl,hsp⟩:=hy.eH
 obtain ⟨m,hm⟩:=Ju hE hs
 have hbs:b.size = s.length:=by rw [<- hb]; simp [bytes]
 have hss:sp.size = 1:=by
  have:=congrArg List.length hsp
  simpa [bytes] using this
 obtain ⟨e1,e2⟩:=LL sp c hsp b.size b (Nat.le_refl _)
 refine .inl ⟨Tryz.call171 _ _,(Tryz.strings_Split b sp m d.w (by omega) hm (by omega)).mono ?_⟩
 rintro e w' ⟨rfl,rfl⟩
 obtain ⟨k1,k2⟩:=tY hs (w:=d.w.alloc (.cells ((Lib.splitB sp 0 (Lib.countB b sp) b).map Value.string).toArray 9)) (by simp) (fun k hk=>Go.RowKit.Below.heap_alloc _ _ _ hk) rfl rfl rfl
 refine ⟨_,rfl,d.outer _,rfl,hσ,k1,k2,.inl (.bQ false _ true d.w.heap.size 0 _ _ 1 ⟨by simp [Cx.outer],fun ho=>?_,fun _ ha=>?_⟩ ?_ (Nat.le_refl _) (fun _=>rfl) ?_)⟩
 ·have:=hs.sP (k:=d.w.heap.size) ho
  omega
 ·have:=hs.iF _ ha
  omega
 ·rw [length_map,<- hb,e2]
 ·rw [<- hb,<- e1]
  refine C5 _ 0 fun j q hj=>?_
  rw [mJ (arr:=((Lib.splitB sp 0 (Lib.countB b sp) b).map Value.string).toArray) (t:=9) (fr:=(0,0)) (by
   show (d.w.heap.push _)[d.w.heap.size]? = _
   simp)]
  simp [hj]
end Go.Ax
namespace Go.Ax
open Go Go.Proofs
theorem JF (c:Nat):∀ l:List Nat,Qi c l = match iV c l with | some i=>(l.take i,l.drop (i + 1),true) | none=>(l,[],false)
 | []=>rfl
 | a :: r=>by
  simp only [Qi,iV]
  by_cases h:a = c
  ·simp [h]
  ·simp only [h,if_false,JF c r]
   cases iV c r <;> simp
end Go.Ax
namespace Go.Ax
open Go Go.Proofs
theorem Ho (E:Env) (hE:E.gl = DD):fP Tryz.prog E 295 wC:=by
 intro d vs xs v hσ hs hv h
 unfold wC at h
 split at h
 case h_2=>cases h
 rename_i s c
 split at h
 case isFalse=>cases h
 rename_i hc
 dsimp only at h
 injection h with h; subst h
 cases hv with | cons _ x _ xs hx hr=>
 cases hr with | cons _ y _ ys hy hr=>
 cases hr
 obtain ⟨b,rfl,hb⟩:=hx.eH
 obtain ⟨sp,rfl,hsp⟩:=hy.eH
 obtain ⟨m,hm⟩:=Ju hE hs
 have hbs:b.size = s.length:=by rw [<- hb]; simp [bytes]
 refine .inl ⟨Tryz.call295 _ _,(Tryz.strings_Cut b sp m d.w (by omega) hm).mono ?_⟩
 rintro e w' ⟨rfl,n,rfl⟩
 obtain ⟨k1,k2⟩:=tY hs (w:=d.w.drewN n) (by simp) (fun k hk=>by simp) rfl rfl rfl
 have hidx:Lib.index b.data.toList sp.data.toList = match iV c s with | some i=>(i:Int) | none=>-1:=by
  rw [<- hb]; exact vR b sp c hsp
 have hlen:sp.data.toList.length = 1:=by
  have:=congrArg List.length hsp
  simpa [bytes] using this
 have hl:b.data.toList.map UInt8.toNat = s:=hb
 have str:∀ (l:List UInt8),VR (d.outer (d.w.drewN n)) (.str (l.map UInt8.toNat)) (.string ⟨l.toArray⟩):=fun l=>by
  have:bytes ⟨l.toArray⟩ = l.map UInt8.toNat:=by simp [bytes]
  rw [<- this]; exact .inl (.str _)
 refine ⟨_,rfl,d.outer (d.w.drewN n),rfl,hσ,k1,k2,?_⟩
 rw [JF]
 unfold Lib.cut
 cases hx:iV c s with
 | none=>
  rw [hx] at hidx
  have h0:¬ (0 <= Lib.index b.data.toList sp.data.toList):=by rw [hidx]; decide
  simp only [if_neg h0]
  refine .fN _ [_,_,_] (.cons _ _ _ _ ?_ (.cons _ _ _ _ ?_ (.cons _ _ _ _ (.inl (.bool _)) .nil)))
  ·have:=str b.data.toList
   rwa [hl] at this
  ·exact str []
 | some i=>
  rw [hx] at hidx
  have h0:0 <= Lib.index b.data.toList sp.data.toList:=by rw [hidx]; exact Int.natCast_nonneg _
  have h1:(Lib.index b.data.toList sp.data.toList).toNat = i:=by rw [hidx]; rfl
  simp only [if_pos h0,h1,hlen]
  refine .fN _ [_,_,_] (.cons _ _ _ _ ?_ (.cons _ _ _ _ ?_ (.cons _ _ _ _ (.inl (.bool _)) .nil)))
  ·have:=str (b.data.toList.take i)
   rwa [List.map_take,hl] at this
  ·have:=str (b.data.toList.drop (i + 1))
   rwa [List.map_drop,hl] at this
end Go.Ax
namespace Go.Ax
open Go Go.Proofs
theorem K3 (n:Nat) (w:World):(callFunc 307 #[.int .i64 n]).run Tryz.prog w = ((Extern.BytealgMakeNoZero.makeNoZero Tryz.f307.params Tryz.f307.resultTypes #[.int .i64 n]).run Tryz.prog w).andThen fun v w'=>.ok (.value v) w':=by
 have h1:Tryz.prog.funcs[307]? = some Tryz.f307:=Tryz.func307
 have h2:(Tryz.f307.name == "runtime.NumGoroutine") = false:=by kernel_rfl
 have h3:Tryz.f307.body.isNone = true:=by kernel_rfl
 have h4:Extern.findNext Tryz.f307 = none:=by kernel_rfl
 have h5:Extern.find Tryz.f307 = some (Extern.BytealgMakeNoZero.makeNoZero Tryz.f307.params Tryz.f307.resultTypes):=by kernel_rfl
 simp only [callFunc,Sem.run_bind,run_program,Result.andThen_ok,h1,h2,h3,h4,h5,Bool.false_eq_true,if_false,if_true,run_mark,Sem.run_pure]
end Go.Ax
namespace Go.Ax
open Go Go.Proofs
theorem Nb (E:Env) {i:Ty} (hi:E.ty 5 = some i) (hsz:i.size = 1) (hP:Tryz.prog.underlying 5 = some (.int .u8)):gH Tryz.prog E 307 (Js 5):=by
 intro c vs xs v σ' hs hv h
 unfold Js at h
 split at h
 case h_2=>cases h
 rename_i n
 split at h
 case isFalse=>cases h
 rename_i hn
 injection h with h; injection h with h1 h2; subst h1 h2
 cases hv with | cons _ x _ xs hx hr=>
 cases hr
 have:=hx.dV; subst this
 obtain ⟨k,rfl⟩:∃ k:Nat,n = k:=⟨n.toNat,by omega⟩
 obtain ⟨cs,r1,r2,_⟩:=Lib.run_makeNoZero (P:=Tryz.prog) c.w Tryz.f307.params _ 5 (show Tryz.prog.underlying (Tryz.f307.resultTypes[0]!) = some (.slice 5) by kernel_rfl) k (by omega)
 have hrt:Tryz.f307.resultTypes = #[Tryz.f307.resultTypes[0]!]:=by kernel_rfl
 have hrun:(callFunc 307 [Value.int .i64 (k:Int)].toArray).run Tryz.prog c.w = .ok (.value (.slice (some ⟨c.w.heap.size,0,none⟩) k cs.size)) (c.w.drew.drew.alloc (.cells cs 5)):=by
  show (callFunc 307 #[.int .i64 (k:Int)]).run Tryz.prog c.w = _
  rw [K3,hrt,r1]
  rfl
 obtain ⟨c',q1,q2,q3,q4,q5,q6,q7⟩:=I7 (c:=c.drew.drew) (Cx.xP (Cx.xP hs)) hi (cs:=[]) (xs:=[]) (ys:=cs.toList) .nil rfl
 refine .inr ⟨_,_,hrun,c',?_,q2,(c.lM.trans c.drew.lM).trans q3,q4,?_⟩
 ·rw [q1]; rfl
 ·have q5':c'.blk c.Z.length = c.w.heap.size:=q5
  rw [<- q5']
  refine .sl _ _ _ _ _ (by rw [q2]; simp [Cx.drew]) (by simpa using r2) (fun k hk=>by cases hk) (fun _=>?_)
  have q6':c'.tot c.Z.length = 0 + cs.toList.length:=q6
  have q7':c'.vX c.Z.length = i.size:=q7
  rw [q6',q7',hsz]; simp
end Go.Ax
namespace Go.Ax
open Go Go.Proofs
theorem Gz (x:Value) (w:World):(callFunc 305 #[x]).run Tryz.prog w = .ok (.value x) w:=by
 have h1:Tryz.prog.funcs[305]? = some Tryz.f305:=Tryz.func305
 have h2:(Tryz.f305.name == "runtime.NumGoroutine") = false:=by kernel_rfl
 have h3:Tryz.f305.body.isNone = true:=by kernel_rfl
 have h4:Extern.findNext Tryz.f305 = none:=by kernel_rfl
 have h5:Extern.find Tryz.f305 = some Extern.AbiNoEscape.same:=by kernel_rfl
 have h6:(Extern.AbiNoEscape.same #[x]).run Tryz.prog w = .ok x w:=rfl
 simp only [callFunc,Sem.run_bind,run_program,Result.andThen_ok,h1,h2,h3,h4,h5,Bool.false_eq_true,if_false,if_true,run_mark,Sem.run_pure,h6]
theorem HS (E:Env):gH Tryz.prog E 305 AX:=by
 intro c vs xs v σ' hs hv h
 unfold AX at h
 split at h
 case h_2=>cases h
 injection h with h; injection h with h1 h2; subst h1 h2
 cases hv with | cons _ x _ xs hx hr=>
 cases hr
 exact .inr ⟨_,_,Gz x c.w,c,rfl,rfl,Ext.refl c,hs,hx⟩
end Go.Ax
end
section
namespace Go.Ax
open Go
section
def Dl (fr:Fr) (Z:Sg) (x:Operand) (K:V -> Sg -> Prop):Prop:=
 match aP fr x with
 | some (.ref b 0)=>match Z[b]? with
  | some (.qY left _)=>(left = [] -> K (.fN [.bool false]) Z) /\ ∀ a e z,left = a ++ e :: z -> K (.fN [.bool true,e.1,e.2]) (Z.set b (.qY (a ++ z) (some e)))
  | _=>False
 | _=>False
def dJ:Op -> Option Operand
 | .next x false=>some x
 | _=>none
def cG (E:Env) (ev:xY) (ops:Array Oper):List Oper -> Fr -> Sg -> (Fr -> Sg -> Prop) -> Prop
 | [],fr,Z,K=>K fr Z
 | o :: rest,fr,Z,K=>match dJ o.op with
  | some x=>bW ops o fr = true /\ Dl fr Z x fun v σ'=>cG E ev ops rest (eG fr o.dst v) σ' K
  | none=>match bJ E ev .no ops o fr Z with
   | some (fr',σ')=>cG E ev ops rest fr' σ' K
   | none=>False
def eF (E:Env):Nat -> Code -> Fr -> Sg -> (X -> Fr -> Sg -> Prop) -> Prop
 | 0,_,_,_,_=>False
 | n + 1,c,fr,Z,Q=>match c with
  | .skip=>Q .normal fr Z
  | .seq a b=>eF E n a fr Z fun x fr Z=>match x with
   | .normal=>eF E n b fr Z Q
   | x=>Q x fr Z
  | .cond c t e=>match aP fr c with
   | some (.bool true)=>eF E n t fr Z Q
   | some (.bool false)=>eF E n e fr Z Q
   | _=>False
  | .block id c=>eF E n c fr Z fun x fr Z=>match x with
   | .exit id'=>if id' = id then Q .normal fr Z else Q (.exit id') fr Z
   | x=>Q x fr Z
  | .loop c=>eF E n c fr Z fun x fr Z=>match x with
   | .normal=>eF E n (.loop c) fr Z Q
   | x=>Q x fr Z
  | .exit id=>Q (.exit id) fr Z
  | .ret=>Q .ret fr Z
  | .region _ ops draw=>match draw with
   | true=>match cC E (ev E n) ops fr Z with
    | some (fr,Z)=>Q .normal fr Z
    | none=>False
   | false=>cG E (ev E n) ops ops.toList fr Z (Q .normal)
  | _=>False
section
variable {E:Env} {n:Nat} {fr:Fr} {Z:Sg} {Q:X -> Fr -> Sg -> Prop}
theorem eO:eF E (n + 1) .skip fr Z Q = Q .normal fr Z:=by rw [eF]
theorem fD {id:Nat}:eF E (n + 1) (.exit id) fr Z Q = Q (.exit id) fr Z:=by rw [eF]
theorem D5:eF E (n + 1) .ret fr Z Q = Q .ret fr Z:=by rw [eF]
theorem cJ {a b:Code}:eF E (n + 1) (.seq a b) fr Z Q = eF E n a fr Z fun x fr Z=>match x with
   | .normal=>eF E n b fr Z Q
   | x=>Q x fr Z:=by rw [eF]
theorem eP {c:Operand} {t e:Code}:eF E (n + 1) (.cond c t e) fr Z Q = match aP fr c with
   | some (.bool true)=>eF E n t fr Z Q
   | some (.bool false)=>eF E n e fr Z Q
   | _=>False:=by rw [eF]
theorem cN {id:Nat} {c:Code}:eF E (n + 1) (.block id c) fr Z Q = eF E n c fr Z fun x fr Z=>match x with
   | .exit id'=>if id' = id then Q .normal fr Z else Q (.exit id') fr Z
   | x=>Q x fr Z:=by rw [eF]
theorem mM {c:Code}:eF E (n + 1) (.loop c) fr Z Q = eF E n c fr Z fun x fr Z=>match x with
   | .normal=>eF E n (.loop c) fr Z Q
   | x=>Q x fr Z:=by rw [eF]
theorem cR {id:Nat} {ops:Array Oper}:eF E (n + 1) (.region id ops false) fr Z Q = cG E (ev E n) ops ops.toList fr Z (Q .normal):=by rw [eF]
end
section
variable {E:Env} {n:Nat} {fr:Fr} {Z:Sg}
theorem JD:ev E (n + 1) .skip fr Z = some (.normal,fr,Z):=by rw [ev]
theorem HV:ev E (n + 1) .ret fr Z = some (.ret,fr,Z):=by rw [ev]
theorem Cc {a b:Code}:ev E (n + 1) (.seq a b) fr Z = match ev E n a fr Z with
   | some (.normal,fr,Z)=>ev E n b fr Z
   | r=>r:=by rw [ev]; rfl
theorem JE {c:Operand} {t e:Code}:ev E (n + 1) (.cond c t e) fr Z = match aP fr c with
   | some (.bool true)=>ev E n t fr Z
   | some (.bool false)=>ev E n e fr Z
   | _=>no "cond" := by rw [ev]; rfl
theorem Ce {id:Nat} {c:Code}:ev E (n + 1) (.block id c) fr Z = match ev E n c fr Z with
   | some (.exit id',fr,Z)=>if id' = id then some (.normal,fr,Z) else some (.exit id',fr,Z)
   | r=>r:=by rw [ev]; rfl
def uB (E:Env) (n:Nat) (c:Code):Option (X × Fr × Sg) -> Option (X × Fr × Sg)
 | some (.normal,fr,Z)=>ev E n (.loop c) fr Z
 | r=>r
theorem Gv {c:Code}:ev E (n + 1) (.loop c) fr Z = uB E n c (ev E n c fr Z):=by rw [ev]; rfl
theorem Cd {id:Nat} {ops:Array Oper}:ev E (n + 1) (.region id ops false) fr Z = match fU E (ev E n) .no ops ops.toList fr Z with
   | some (fr,Z)=>some (.normal,fr,Z)
   | none=>none:=by rw [ev]; simp only [Bool.false_eq_true,if_false]; rfl
end
section
variable {P:Program} {E:Env}
def CE (E:Env) (c:Cx) (Q:X -> Fr -> Sg -> Prop) (e:Exit) (a:Act) (w:World):Prop:=∃ x fr Z,Q x fr Z /\ Post E c x fr Z e a w
theorem CE.trans {c c':Cx} {Q:X -> Fr -> Sg -> Prop} {e:Exit} {a:Act} {w:World} (h:Ext c c') (hp:CE E c' Q e a w):CE E c Q e a w:=by
 obtain ⟨x,fr,Z,h1,h2⟩:=hp
 exact ⟨x,fr,Z,h1,h2.trans h⟩
theorem HE {c:Cx} (hs:SR E c) {fr:Fr} {a:Act} (hf:FR c fr a.tmps) {o:Oper} {x:Operand} (ho:o.op = .next x false) {K:V -> Sg -> Prop} (h:Dl fr c.Z x K)
  {next:Act -> World -> Prop} {Q:Exit -> Act -> World -> Prop} (hn:∀ v σ' y w',K v σ' -> jX E c v σ' y w' -> next (a.put o.dst y) w'):o.wp P a c.w next Q:=by
 unfold Dl at h
 split at h
 case h_2=>exact h.elim
 rename_i b hx
 split at h
 case h_2=>exact h.elim
 rename_i left cur hob
 obtain ⟨hp,hblt⟩:=(aK hf hx).gU
 have hlv:live c.Z b:=⟨_,hob,rfl⟩
 have run:∀ (y:Value) (w':World),(Instr.next (.pointer (some ⟨c.blk b,0,none⟩)) false o.type).run P c.w = .ok y w' -> next (a.put o.dst y) w' -> o.wp P a c.w next Q:=by
  intro y w' hr hk
  unfold Oper.wp
  have:(execOp a.eval o).run P c.w = .ok (.value y) w':=by
   unfold execOp
   rw [ho]
   simp only [hp]
   simp only [Sem.run_bind,hr,Result.andThen_ok,Sem.run_pure]
  rw [this]
  exact hk
 rcases hs.obj b _ hob with ⟨h1,h0,h2⟩ | ⟨g,m,en,cl,seen,l,k1,k2,k3,k4,k5,k6,k7⟩
 ·refine run (.tuple #[.bool false]) c.w ?_ (hn _ _ _ _ (h.1 h1) ⟨c,rfl,rfl,Ext.refl c,hs,.fN _ [_] (.cons _ _ _ _ (.inl (.bool _)) .nil)⟩)
  simp only [Instr.next,getObj,Sem.run_bind,Sem.run,h2,Result.andThen]
  rfl
 ·have hl:∀ q,q ∈ (leftOf en seen).toList ↔ q ∈ l:=fun q=>by rw [k5.mem_iff]; simp [leftOf]
  rcases run_next_at (P:=P) c.w o.type (c.blk b) m cl cl seen en cl k1 k3 k4.st.1 (Nat.le_refl _) with ⟨r1,r2⟩ | ⟨q,r1,w1,r2,r3⟩
  ·have:l = []:=by
    cases l with
    | nil=>rfl
    | cons q l=>
     have:=(hl q).2 (mem_cons_self ..)
     rw [Array.eq_empty_of_size_eq_zero r1] at this
     simp at this
   subst this
   have hleft:left = []:=by cases k6; rfl
   exact run _ _ r2 (hn _ _ _ _ (h.1 hleft) ⟨c,rfl,rfl,Ext.refl c,hs,.fN _ [_] (.cons _ _ _ _ (.inl (.bool _)) .nil)⟩)
  ·have hq:=(hl q).1 r1
   have part:∀ {left:List (V × V)} {l:List MapEntry},iD c left l -> q ∈ l -> ∃ a e z la lz,left = a ++ e :: z /\ l = la ++ q :: lz /\ iD c (a ++ z) (la ++ lz) /\ qK c.w c.bB e.1 q.key /\ VR c e.2 q.val:=by
    intro left l hm
    induction hm with
    | nil=>intro hq; cases hq
    | cons k v es e l hk hv hr ih=>
     intro hq
     by_cases hqe:q = e
     ·subst hqe
      exact ⟨[],(k,v),es,[],l,rfl,rfl,hr,hk,hv⟩
     ·have hq':q ∈ l:=by
       rcases mem_cons.1 hq with hq | hq
       ·exact absurd hq hqe
       ·exact hq
      obtain ⟨a,e',z,la,lz,e1,e2,e3,e4,e5⟩:=ih hq'
      exact ⟨(k,v) :: a,e',z,e :: la,lz,by rw [e1]; rfl,by rw [e2]; rfl,.cons _ _ _ _ _ hk hv e3,e4,e5⟩
   obtain ⟨pa,pe,pz,la,lz,e1,e2,e3,e4,e5⟩:=part k6 hq
   let c1:Cx:={ c with w:=w1 }
   have hc1:SR E c1 /\ Ext c c1 /\ w1.heap = c.w.heap:=by
    rcases r2 with rfl | rfl
    ·exact ⟨hs,Ext.refl c,rfl⟩
    ·exact ⟨Cx.xP hs,c.lM,rfl⟩
   obtain ⟨hs1,hx1,hh1⟩:=hc1
   have hlv1:live c1.Z b:=hlv
   have hx2:=Cx.mG (c:=c1) hlv1 (.mapIter (some m) cl (seen.push q.born) cl) (.qY (pa ++ pz) (some pe))
   have hx3:=hx1.trans hx2
   have hqen:q ∈ en.toList:=by
    have:=r1
    simp only [leftOf,Array.toList_filter,List.mem_filter] at this
    exact this.1
   have hs2:SR E (c1.put b (.mapIter (some m) cl (seen.push q.born) cl) (.qY (pa ++ pz) (some pe))):=by
    refine Cx.vE hs1 hlv1 _ _ (.inr ⟨g,m,en,cl,seen.push q.born,la ++ lz,?_,(hx3.wider g m k2).1,by rw [(hx3.wider g m k2).2]; exact k3,k4,?_,e3.mono hx3,?_⟩)
    ·have hlt:=iY k1
     show (w1.heap.setIfInBounds (c.blk b) _)[c.blk b]? = _
     rw [hh1]
     simp [hlt]
    ·have hnd:(en.toList.map (·.born)).Nodup:=k4.st.2.1
     have hp2:(la ++ q :: lz).Perm (en.toList.filter fun e=>!seen.contains e.born):=by rw [<- e2]; exact k5
     have hf:(en.toList.filter fun e=>!(seen.push q.born).contains e.born) = (en.toList.filter fun e=>!seen.contains e.born).filter fun e=>!(e.born == q.born):=by
      rw [List.filter_filter]
      refine List.filter_congr fun e _=>?_
      simp only [Array.contains_push,Bool.not_or]
      rw [Bool.and_comm]
     rw [hf]
     have hp3:=hp2.filter fun e:MapEntry=>!(e.born == q.born)
     have hnd2:((la ++ q :: lz).map (·.born)).Nodup:=by
      have:((en.toList.filter fun e=>!seen.contains e.born).map (·.born)).Nodup:=hnd.sublist (List.filter_sublist.map _)
      exact (hp2.map _).nodup_iff.2 this
     have hself:(la ++ q :: lz).filter (fun e:MapEntry=>!(e.born == q.born)) = la ++ lz:=by
      rw [List.map_append,map_cons,nodup_append] at hnd2
      obtain ⟨n1,n2,n3⟩:=hnd2
      rw [nodup_cons] at n2
      rw [List.filter_append,List.filter_cons]
      have q0:(!(q.born == q.born)) = false:=by simp
      rw [q0,if_neg (by simp)]
      congr 1
      ·rw [List.filter_eq_self]
       intro e he
       have:e.born ≠ q.born:=fun h=>n3 _ (List.mem_map_of_mem he) _ (mem_cons_self ..) h
       simp [this]
      ·rw [List.filter_eq_self]
       intro e he
       have:e.born ≠ q.born:=fun h=>n2.1 (by rw [<- h]; exact List.mem_map_of_mem he)
       simp [this]
     rw [hself] at hp3
     exact hp3
    ·intro e he
     injection he with he; subst he
     exact ⟨q,hqen,⟨seen,rfl⟩,qK.mono hx3.wider e4,e5.mono hx3⟩
   refine run _ _ r3 (hn _ _ _ _ (h.2 pa pe pz e1) ⟨_,?_,rfl,hx3,hs2,.fN _ [_,_,_] (.cons _ _ _ _ (.inl (.bool _)) (.cons _ _ _ _ ((qK.mono hx3.wider e4).vr) (.cons _ _ _ _ (e5.mono hx3) .nil)))⟩)
   rfl
theorem nC (he:cQ P E) (hfs:mU P E) {ev:xY} (hev:DW P E ev) {ops:Array Oper} {Q:X -> Fr -> Sg -> Prop}:∀ (rest:List Oper) (k:Nat),ops.toList.drop k = rest -> ∀ {c:Cx} {fr:Fr} {a:Act},SR E c -> FR c fr a.tmps -> a.defers = [] ->
  cG E ev ops rest fr c.Z (Q .normal) -> ∀ (c0:Cx),Ext c0 c -> wpOps P ops (CE E c0 Q) (List.range' k rest.length) a c.w
 | [],k,_,c,fr,a,hs,hf,hd,h,c0,hx=>⟨.normal,fr,c.Z,h,rfl,hd,c,rfl,rfl,hx,hs,hf⟩
 | o :: rest,k,hk,c,fr,a,hs,hf,hd,h,c0,hx=>by
  have ho:ops[k]? = some o:=by
   have:=congrArg (·[0]?) hk
   simpa using this
  have hk':ops.toList.drop (k + 1) = rest:=by
   have:=congrArg List.tail hk
   simpa using this
  simp only [length_cons,List.range'_succ,wpOps,ho]
  rw [E1 hf]
  simp only [cG] at h
  split at h
  ·rename_i x hnx
   have hop:o.op = .next x false:=by
    unfold dJ at hnx
    split at hnx
    ·rename_i heq; injection hnx with hnx; subst hnx; exact heq
    ·cases hnx
   obtain ⟨hw,h⟩:=h
   rw [if_pos hw]
   left
   refine HE hs hf hop h ?_
   rintro v σ' y w' hK ⟨c',rfl,rfl,k1,k2,k3⟩
   exact nC he hfs hev rest (k + 1) hk' k2 (FR.put (FR.mono k1 hf) k3 o.dst) (by rw [put_defers]; exact hd) hK c0 (hx.trans k1)
  ·split at h
   case h_2=>exact h.elim
   rename_i fr1 σ1 hst
   unfold bJ at hst
   simp only [yO] at hst
   split at hst
   ·rename_i hw
    rw [if_pos hw]
    left
    split at hst
    case h_2=>cases hst
    rename_i v σ2 hop
    injection hst with hst; injection hst with e1 e2; subst e1 e2
    refine FG he hfs hev hs hf hop ?_
    rintro x w' ⟨c',rfl,rfl,k1,k2,k3⟩
    exact nC he hfs hev rest (k + 1) hk' k2 (FR.put (FR.mono k1 hf) k3 o.dst) (by rw [put_defers]; exact hd) h c0 (hx.trans k1)
   ·rename_i hw
    rw [if_neg hw]
    injection hst with hst; injection hst with e1 e2; subst e1 e2
    exact nC he hfs hev rest (k + 1) hk' hs (hf.put .undef o.dst) (by rw [put_defers]; exact hd) h c0 hx
def RunA (P:Program) (E:Env) (n:Nat):Prop:=∀ (code:Code) (fr:Fr) (Z:Sg) (Q:X -> Fr -> Sg -> Prop),eF E n code fr Z Q ->
 ∀ (c:Cx) (a:Act),SR E c -> c.Z = Z -> FR c fr a.tmps -> a.defers = [] -> code.wp P (CE E c Q) a c.w
theorem C0 (he:cQ P E) (hfs:mU P E) (hmix:P.follows .mixedOrders = true):∀ n,RunA P E n /\
  ∀ (c1:Code) (fr:Fr) (Z:Sg) (Q:X -> Fr -> Sg -> Prop),eF E n (.loop c1) fr Z Q -> ∀ (c:Cx) (a:Act),SR E c -> c.Z = Z -> FR c fr a.tmps -> a.defers = [] ->
   ∀ c0,Ext c0 c -> Code.rounds P c1 (CE E c0 Q) n a c.w
 | 0=>by
  constructor
  ·intro code fr Z Q h
   simp only [eF] at h
  ·intro c1 fr Z Q h
   simp only [eF] at h
 | n + 1=>by
  obtain ⟨ih,ihl⟩:=C0 he hfs hmix n
  have loops:∀ (c1:Code) (fr:Fr) (Z:Sg) (Q:X -> Fr -> Sg -> Prop),eF E (n + 1) (.loop c1) fr Z Q -> ∀ (c:Cx) (a:Act),SR E c -> c.Z = Z -> FR c fr a.tmps -> a.defers = [] ->
    ∀ c0,Ext c0 c -> Code.rounds P c1 (CE E c0 Q) (n + 1) a c.w:=by
   intro c1 fr Z Q h c a hs hσ hf hd c0 hx
   rw [rounds_succ]
   simp only [eF] at h
   refine wp_mono (ih _ _ _ _ h c a hs hσ hf hd) ?_
   rintro e a1 w1 ⟨x,fr1,σ1,hq,hx1,hd1,c',rfl,hσ1,k1,k2,k3⟩
   cases x with
   | normal=>
    cases hx1
    exact ihl c1 fr1 σ1 Q hq c' a1 k2 hσ1 k3 hd1 c0 (hx.trans k1)
   | exit id=>cases hx1; exact ⟨.exit id,fr1,σ1,hq,rfl,hd1,c',rfl,hσ1,hx.trans k1,k2,k3⟩
   | ret=>cases hx1; exact ⟨.ret,fr1,σ1,hq,rfl,hd1,c',rfl,hσ1,hx.trans k1,k2,k3⟩
  refine ⟨fun code fr Z Q h c a hs hσ hf hd=>?_,loops⟩
  subst hσ
  cases code with
  | skip=>
   simp only [eF] at h
   exact wp_skip ⟨.normal,fr,c.Z,h,rfl,hd,c,rfl,rfl,Ext.refl c,hs,hf⟩
  | exit id=>
   simp only [eF] at h
   exact wp_exit ⟨.exit id,fr,c.Z,h,rfl,hd,c,rfl,rfl,Ext.refl c,hs,hf⟩
  | ret=>
   simp only [eF] at h
   exact wp_ret ⟨.ret,fr,c.Z,h,rfl,hd,c,rfl,rfl,Ext.refl c,hs,hf⟩
  | seq x y=>
   simp only [eF] at h
   refine wp_seq ?_
   refine wp_mono (ih _ _ _ _ h c a hs rfl hf hd) ?_
   rintro e a1 w1 ⟨x,fr1,σ1,hq,hx1,hd1,c',rfl,hσ1,k1,k2,k3⟩
   cases x with
   | normal=>
    cases hx1
    exact wp_mono (ih _ _ _ _ hq c' a1 k2 hσ1 k3 hd1) fun e a w hp=>hp.trans k1
   | exit id=>cases hx1; exact ⟨.exit id,fr1,σ1,hq,rfl,hd1,c',rfl,hσ1,k1,k2,k3⟩
   | ret=>cases hx1; exact ⟨.ret,fr1,σ1,hq,rfl,hd1,c',rfl,hσ1,k1,k2,k3⟩
  | cond x y z=>
   simp only [eF] at h
   split at h
   ·rename_i hx
    exact wp_cond_true (aK hf hx).iB (ih _ _ _ _ h c a hs rfl hf hd)
   ·rename_i hx
    exact wp_cond_false (aK hf hx).iB (ih _ _ _ _ h c a hs rfl hf hd)
   ·exact h.elim
  | block id x=>
   simp only [eF] at h
   refine wp_block ?_
   refine wp_mono (ih _ _ _ _ h c a hs rfl hf hd) ?_
   rintro e a1 w1 ⟨x,fr1,σ1,hq,hx1,hp⟩
   cases x with
   | normal=>cases hx1; exact ⟨.normal,fr1,σ1,hq,rfl,hp⟩
   | ret=>cases hx1; exact ⟨.ret,fr1,σ1,hq,rfl,hp⟩
   | exit id'=>
    cases hx1
    simp only [Exit.inBlock]
    simp only at hq
    split at hq
    ·rename_i heq
     rw [if_pos heq]
     exact ⟨.normal,fr1,σ1,hq,rfl,hp⟩
    ·rename_i heq
     rw [if_neg heq]
     exact ⟨.exit id',fr1,σ1,hq,rfl,hp⟩
  | loop x=>exact wp_loop_rounds (n + 1) (loops x fr c.Z Q h c a hs rfl hf hd c (Ext.refl c))
  | region id ops draw=>
   simp only [eF] at h
   cases draw with
   | false=>
    refine wp_region ?_
    simp only at h
    rw [List.range_eq_range',<- Array.length_toList]
    exact nC he hfs (xL he hfs hmix n).1 ops.toList 0 (by simp) hs hf hd h c (Ext.refl c)
   | true=>
    simp only at h
    split at h
    case h_2=>exact h.elim
    rename_i fr1 σ1 h1
    have hr:ev E (n + 1) (.region id ops true) fr c.Z = some (.normal,fr1,σ1):=by
     simp only [ev,if_true,h1]
    exact wp_mono ((xL he hfs hmix (n + 1)).1 _ _ _ _ _ _ hr c a hs rfl hf hd) fun e a w hp=>⟨.normal,fr1,σ1,h,hp⟩
  | _=>simp only [eF] at h
def A2 (E:Env) (n:Nat) (F:Fn) (args:List V) (Z:Sg) (R:V -> Sg -> Prop):Prop:=
 ∃ fr,Fr.init F.ntmps args = some fr /\ eF E n F.code fr Z fun x fr Z=>(x = .normal \/ x = .ret) /\ ∃ vs,results E fr Z F.results = some vs /\ R (match vs with | [v]=>v | vs=>.fN vs) Z
theorem uR (he:cQ P E) (hfs:mU P E) (hmix:P.follows .mixedOrders = true) {f:Nat} {F:Fn} (hF:E.fn f = some F) {c:Cx} (hs:SR E c) {vs:List V} {xs:List Value} (hv:eY c vs xs) {n:Nat} {R:V -> Sg -> Prop}
  (h:A2 E n F vs c.Z R):Calls P f xs.toArray c.w fun e w'=>∃ x v σ',e = .returned x /\ R v σ' /\ jX E c v σ' x w':=by
 obtain ⟨fn,h1,h2,h3,h4,h5⟩:=hfs.fn f F hF
 obtain ⟨fr0,hfr0,h⟩:=h
 refine calls_of_wp h1 h2 ?_
 have:=(C0 he hfs hmix n).1 _ _ _ _ h c { tmps:=xs.toArray ++ Array.replicate (fn.ntmps - xs.toArray.size) undef,defers:=[] } hs rfl (by
  have:=FR.init hv hfr0
  simpa [h3] using this) rfl
 refine wp_mono this ?_
 rintro e a w ⟨x,fr1,σ1,⟨hq1,us,hu,hR⟩,hx,hd,c',rfl,rfl,k1,k2,k3⟩
 have fin:a.defers = [] /\ ∃ v',(Go.results fn a.tmps).run P c'.w = .ok v' c'.w /\ ∃ x v σ',Ending.returned v' = .returned x /\ R v σ' /\ jX E c v σ' x c'.w:=by
  refine ⟨hd,?_⟩
  obtain ⟨ys,g1,g2⟩:=kF he k2 k3 hu
  have run:∀ v',(if h:ys.toArray.size = 1 then ys.toArray[0] else .tuple ys.toArray) = v' -> (Go.results fn a.tmps).run P c'.w = .ok v' c'.w:=by
   rintro v' rfl
   rw [vD,Array.mapM_eq_mapM_toList,h4]
   simp only [Sem.run_bind,Sem.run_map]
   rw [g1]
   simp
  cases g2 with
  | nil=>exact ⟨_,run _ rfl,_,_,_,rfl,hR,c',rfl,rfl,k1,k2,.fN [] [] .nil⟩
  | cons u y us ys hy hr=>
   cases hr with
   | nil=>exact ⟨y,run _ (by simp),_,_,_,rfl,hR,c',rfl,rfl,k1,k2,hy⟩
   | cons u' y' us ys hy' hr=>
    refine ⟨.tuple (y :: y' :: ys).toArray,run _ ?_,_,_,_,rfl,hR,c',rfl,rfl,k1,k2,.fN _ _ (.cons _ _ _ _ hy (.cons _ _ _ _ hy' hr))⟩
    rw [dif_neg (by simp)]
 rcases hq1 with rfl | rfl
 ·cases hx; exact fin
 ·cases hx; exact fin
theorem uL (hfs:mU P E) {f:Nat} {F:Fn} (hF:E.fn f = some F) {xs:List Value} {w:World} {R:Value -> World -> Prop} (h:Calls P f xs.toArray w fun e w'=>∃ x,e = .returned x /\ R x w'):rR P f xs w R:=by
 obtain ⟨fn,f1,f2,f3,f4,f5⟩:=hfs.fn f F hF
 have f5':¬ fn.name = "runtime.NumGoroutine" := by simpa using f5
 exact .inl ⟨by simp [callFunc,f1,f5',f2],h⟩
theorem Eb (he:cQ P E) (hfs:mU P E) (hmix:P.follows .mixedOrders = true) {f:Nat} {F:Fn} (hF:E.fn f = some F) {s:List V -> Option V}
  (h:∀ vs v,s vs = some v -> ∃ n,A2 E n F vs [] fun u Z=>cT Z E.ty false u = some v):fP P E f s:=by
 intro d vs xs v hd hs hv hm
 obtain ⟨n,hn⟩:=h vs v hm
 refine uL hfs hF ?_
 have hi:=s_ hs []
 have hvi:eY (d.inner (d.fT [])) vs xs:=by
  refine eY.mono ?_ hv
  have ho:∀ k,¬ d.own k:=by
   rintro k ⟨b,⟨o,ho,_⟩,_⟩
   rw [hd] at ho; cases ho
  have hanc:(d.inner (d.fT [])).mT = d.mT:=by
   funext k
   exact propext ⟨fun h=>h.resolve_right (ho k),fun h=>.inl h⟩
  exact ⟨Nat.le_refl _,fun k _ _=>⟨rfl,nQ⟩,by rw [hd]; exact Nat.le_refl _,fun _ _=>rfl,fun _ _=>rfl,fun _ _=>rfl,hanc,rfl,rfl,rfl⟩
 refine (uR he hfs hmix hF hi hvi hn).mono ?_
 rintro e w' ⟨x,u,σ1,rfl,hR,d1,rfl,hσ,hx,hsd,hxv⟩
 rw [<- hσ] at hR
 obtain ⟨g1,g2,g3⟩:=pR hs hx hsd hxv hR
 exact ⟨x,rfl,(d.fT []).outer d1.w,rfl,hd,g1,g2,g3⟩
end
end
section
theorem iD.perm {c:Cx} {es es':List (V × V)} {l:List MapEntry} (h:iD c es l) (hp:es.Perm es'):∃ l',l.Perm l' /\ iD c es' l':=by
 induction hp generalizing l with
 | nil=>exact ⟨l,.refl _,h⟩
 | cons x _ ih=>
  cases h with | cons k v es e l hk hv hr=>
  obtain ⟨l',h1,h2⟩:=ih hr
  exact ⟨e :: l',.cons _ h1,.cons _ _ _ _ _ hk hv h2⟩
 | swap x y l0=>
  cases h with | cons k v es e l hk hv hr=>
  cases hr with | cons k' v' es e' l hk' hv' hr=>
  exact ⟨e' :: e :: l,.swap ..,.cons _ _ _ _ _ hk' hv' (.cons _ _ _ _ _ hk hv hr)⟩
 | trans _ _ ih1 ih2=>
  obtain ⟨l1,h1,h2⟩:=ih1 h
  obtain ⟨l2,h3,h4⟩:=ih2 h2
  exact ⟨l2,h1.trans h3,h4⟩
def ks:V × V -> List Nat
 | (.str k,_)=>k
 | _=>[]
def iL (es:List (V × V)):Prop:=∀ e ∈ es,∃ k,e.1 = .str k
theorem FO {k:List Nat} {v:V}:∀ {es:List (V × V)},iL es -> (es.map ks).Nodup -> ∃ l,jI iE (.str k) v es = some l /\ iL l /\ (l.map ks).Nodup /\ ∀ e,e ∈ l ↔ e = (.str k,v) \/ (e ∈ es /\ ks e ≠ k)
 | [],_,_=>⟨[(.str k,v)],rfl,by intro e he; simp at he; subst he; exact ⟨k,rfl⟩,by simp,by simp⟩
 | (k',v') :: es,h,hn=>by
  obtain ⟨k2,hk2⟩:=h (k',v') (mem_cons_self ..)
  simp only at hk2
  subst hk2
  simp only [map_cons,nodup_cons] at hn
  have hr:iL es:=fun e he=>h e (mem_cons_of_mem _ he)
  by_cases e:k = k2
  ·subst e
   have hb:iE (.str k) (.str k) = some true:=by simp [iE,seq_eq]
   refine ⟨(.str k,v) :: es,by simp only [jI,hb],?_,?_,?_⟩
   ·intro e he
    rcases mem_cons.1 he with rfl | he
    ·exact ⟨k,rfl⟩
    ·exact hr e he
   ·simp only [map_cons,nodup_cons]; exact hn
   ·intro e
    simp only [mem_cons]
    constructor
    ·rintro (rfl | he)
     ·exact .inl rfl
     ·exact .inr ⟨.inr he,fun hk=>hn.1 (mem_map.2 ⟨e,he,hk⟩)⟩
    ·rintro (rfl | ⟨rfl | he,hk⟩)
     ·exact .inl rfl
     ·exact absurd rfl hk
     ·exact .inr he
  ·obtain ⟨l,h1,h2,h3,h4⟩:=FO (k:=k) (v:=v) hr hn.2
   have hb:iE (.str k) (.str k2) = some false:=by simp [iE,seq_eq,e]
   refine ⟨(.str k2,v') :: l,by simp only [jI,hb,h1],?_,?_,?_⟩
   ·intro e he
    rcases mem_cons.1 he with rfl | he
    ·exact ⟨k2,rfl⟩
    ·exact h2 e he
   ·simp only [map_cons,nodup_cons]
    refine ⟨fun hm=>?_,h3⟩
    obtain ⟨x,hx,hxk⟩:=mem_map.1 hm
    rcases (h4 x).1 hx with rfl | ⟨hx,_⟩
    ·exact e hxk
    ·exact hn.1 (mem_map.2 ⟨x,hx,hxk⟩)
   ·intro x
    simp only [mem_cons,h4]
    constructor
    ·rintro (rfl | rfl | ⟨hx,hk⟩)
     ·exact .inr ⟨.inl rfl,fun hk=>e hk.symm⟩
     ·exact .inl rfl
     ·exact .inr ⟨.inr hx,hk⟩
    ·rintro (rfl | ⟨rfl | hx,hk⟩)
     ·exact .inr (.inl rfl)
     ·exact .inl rfl
     ·exact .inr (.inr ⟨hx,hk⟩)
theorem nY:∀ {p:List (V × V)} {es:List (V × V)},iL p -> (p.map ks).Nodup -> iL es -> (es.map ks).Nodup -> ∃ l,kL es p = some l /\ iL l /\ (l.map ks).Nodup /\ ∀ e,e ∈ l ↔ e ∈ p \/ (e ∈ es /\ ks e ∉ p.map ks)
 | [],es,_,_,h,hn=>⟨es,rfl,h,hn,by simp⟩
 | (k',v) :: p,es,hp,hpn,h,hn=>by
  obtain ⟨k,hk⟩:=hp (k',v) (mem_cons_self ..)
  simp only at hk
  subst hk
  simp only [map_cons,nodup_cons] at hpn
  obtain ⟨l1,a1,a2,a3,a4⟩:=FO (k:=k) (v:=v) h hn
  obtain ⟨l,b1,b2,b3,b4⟩:=nY (p:=p) (es:=l1) (fun e he=>hp e (mem_cons_of_mem _ he)) hpn.2 a2 a3
  refine ⟨l,?_,b2,b3,?_⟩
  ·simp only [kL,a1,b1]
  ·intro e
   rw [b4,a4]
   simp only [mem_cons,map_cons,not_or]
   constructor
   ·rintro (he | ⟨rfl | ⟨he,h1⟩,h2⟩)
    ·exact .inl (.inr he)
    ·exact .inl (.inl rfl)
    ·exact .inr ⟨he,h1,h2⟩
   ·rintro ((rfl | he) | ⟨he,h1,h2⟩)
    ·exact .inr ⟨.inl rfl,hpn.1⟩
    ·exact .inl he
    ·exact .inr ⟨.inr ⟨he,h1⟩,h2⟩
theorem FB {p p' es:List (V × V)} {l l':List (V × V)} (hpp:p.Perm p') (hp:iL p) (hpn:(p.map ks).Nodup) (h:iL es) (hn:(es.map ks).Nodup) (h1:kL es p = some l) (h2:kL es p' = some l'):l.Perm l':=by
 obtain ⟨a,a1,a2,a3,a4⟩:=nY hp hpn h hn
 obtain ⟨b,b1,b2,b3,b4⟩:=nY (p:=p') (fun e he=>hp e (hpp.mem_iff.2 he)) ((hpp.map ks).nodup_iff.1 hpn) h hn
 rw [a1] at h1; injection h1 with h1; subst h1
 rw [b1] at h2; injection h2 with h2; subst h2
 have nd:∀ {l:List (V × V)},(l.map ks).Nodup -> l.Nodup:=fun h=>(List.pairwise_map.1 h).imp fun h e=>h (by rw [e])
 refine (List.perm_ext_iff_of_nodup (nd a3) (nd b3)).2 fun e=>?_
 rw [a4,b4,hpp.mem_iff,(hpp.map ks).mem_iff]
section
variable {E:Env}
def aside (Z:Sg) (d:Nat):Sg:=Z.mapIdx fun j o=>if j = d then o else .dead
theorem vU {Z:Sg} {d:Nat}:(aside Z d)[d]? = Z[d]?:=by
 simp [aside]
theorem As {Z:Sg} {d j:Nat} {o:O} (h:(aside Z d)[j]? = some o) (hj:j ≠ d):o = .dead:=by
 simp only [aside,List.getElem?_mapIdx,Option.map_eq_some_iff] at h
 obtain ⟨o',_,h⟩:=h
 rw [if_neg hj] at h
 exact h.symm
theorem nR (Z:Sg) (d:Nat):(aside Z d).length = Z.length:=by simp [aside]
def Cx.aside (c:Cx) (d:Nat):Cx:={ c with Z:=Ax.aside c.Z d }
theorem kR {Z:Sg} {d j:Nat} (h:live (aside Z d) j):j = d /\ live Z d:=by
 obtain ⟨o,ho,ha⟩:=h
 by_cases e:j = d
 ·subst e
  exact ⟨rfl,o,by rw [<- vU]; exact ho,ha⟩
 ·have:=As ho e
  subst this; cases ha
theorem Cx.N0 {c:Cx} (h:SR E c) (d:Nat):SR E (c.aside d) /\ Ext c (c.aside d):=by
 have hext:Ext c (c.aside d):=⟨Nat.le_refl _,fun k _ ho=>⟨rfl,fun ⟨j,hj,e⟩=>by
   obtain ⟨rfl,hl⟩:=kR hj
   exact ho ⟨j,hl,e⟩⟩,by simp [Cx.aside,nR],fun _ _=>rfl,fun _ _=>rfl,fun _ _=>rfl,rfl,rfl,rfl,rfl⟩
 refine ⟨⟨fun i j hi hj _=>by rw [(kR hi).1,(kR hj).1],fun j o ho=>?_,fun j hj=>?_,h.iF,oG hext h.gl⟩,hext⟩
 ·by_cases e:j = d
  ·subst e
   have ho':c.Z[j]? = some o:=by rw [<- vU]; exact ho
   exact (h.obj j o ho').mono hext (List.getElem?_eq_some_iff.1 ho').1 rfl
  ·have:=As ho e
   subst this; exact True.intro
 ·obtain ⟨rfl,hl⟩:=kR hj
  exact h.mT j hl
theorem SR.restore {c c':Cx} {d:Nat} {o:O} (hs:SR E c) (hlv:live c.Z d) (hx:Ext (c.aside d) c') {σ3:Sg} (hlen:σ3.length = c'.Z.length)
  (hold:∀ j,j < c.Z.length -> j ≠ d -> σ3[j]? = c.Z[j]?) (hd:σ3[d]? = some o) (hnew:∀ j o,c.Z.length <= j -> σ3[j]? = some o -> o = .dead)
  (hob:Ext c { c' with Z:=σ3 } -> tN E { c' with Z:=σ3 } d o) (hanc:∀ k,c'.mT k -> k < c'.w.heap.size):SR E { c' with Z:=σ3 } /\ Ext c { c' with Z:=σ3 }:=by
 have hdl:=dL hlv
 have hblk:∀ j,j < c.Z.length -> c'.blk j = c.blk j:=fun j hj=>hx.blk j (by simpa [Cx.aside,nR] using hj)
 have lv:∀ {j},live σ3 j -> j < c.Z.length /\ live c.Z j:=by
  rintro j ⟨o',ho,ha⟩
  rcases Nat.lt_or_ge j c.Z.length with hj | hj
  ·by_cases e:j = d
   ·subst e; exact ⟨hj,hlv⟩
   ·exact ⟨hj,o',by rw [<- hold j hj e]; exact ho,ha⟩
  ·have:=hnew j o' hj ho
   subst this; cases ha
 have hext:Ext c { c' with Z:=σ3 }:=by
  refine ⟨hx.size,fun k hk ho=>?_,?_,hblk,fun j hj=>hx.tot j (by simpa [Cx.aside,nR] using hj),fun j hj=>hx.vX j (by simpa [Cx.aside,nR] using hj),hx.mT,hx.os,hx.tape,hx.output⟩
  ·have ho':¬ (c.aside d).own k:=fun ⟨j,hj,e⟩=>by
    obtain ⟨rfl,hl⟩:=kR hj
    exact ho ⟨j,hl,e⟩
   refine ⟨(hx.keep k hk ho').1,?_⟩
   rintro ⟨j,hj,e⟩
   obtain ⟨h1,h2⟩:=lv hj
   exact ho ⟨j,h2,by rw [<- hblk j h1]; exact e⟩
  ·show c.Z.length <= σ3.length
   rw [hlen]
   simpa [Cx.aside,nR] using hx.len
 refine ⟨⟨fun i j hi hj e=>?_,fun j o' ho=>?_,fun j hj=>?_,hanc,oG hext hs.gl⟩,hext⟩
 ·obtain ⟨i1,i2⟩:=lv hi
  obtain ⟨j1,j2⟩:=lv hj
  have e:c'.blk i = c'.blk j:=e
  rw [hblk i i1,hblk j j1] at e
  exact hs.inj i j i2 j2 e
 ·have ho:σ3[j]? = some o':=ho
  rcases Nat.lt_or_ge j c.Z.length with hj | hj
  ·by_cases e:j = d
   ·subst e
    rw [hd] at ho; injection ho with ho; subst ho
    exact hob hext
   ·have ho':c.Z[j]? = some o':=by rw [<- hold j hj e]; exact ho
    by_cases hl:live c.Z j
    ·refine (hs.obj j o' ho').mono hext hj ?_
     have hnk:¬ (c.aside d).own (c.blk j):=fun ⟨i,hi,h⟩=>by
      obtain ⟨rfl,hl'⟩:=kR hi
      exact e (hs.inj j i hl hl' h.symm)
     exact (hx.keep _ (hs.lt hl) hnk).1
    ·cases o' with
     | dead=>exact True.intro
     | _=>exact (hl ⟨_,ho',rfl⟩).elim
  ·have:=hnew j o' hj ho
   subst this; exact True.intro
 ·obtain ⟨j1,j2⟩:=lv hj
  show ¬ c'.mT (c'.blk j)
  rw [hblk j j1,show c'.mT = c.mT from hx.mT]
  exact hs.mT j j2
theorem Mu {c c':Cx} {v:V} {x:Value} (hp:plainCell v = true) (h:VR c v x):VR c' v x:=by
 cases v with
 | bool b=>rw [h.iB]; exact .inl (.bool _)
 | int k n=>rw [h.dV]; exact .inl (.int _ _)
 | str s=>obtain ⟨b,rfl,rfl⟩:=h.eH; exact .inl (.str _)
 | _=>cases hp
theorem vH {c:Cx} {w:World} {I:Bool -> Nat -> Prop} {v:V} {x:Value} (hp:plainCell v = true) (h:VR c v x):IR w I v x:=by
 cases v with
 | bool b=>rw [h.iB]; exact .bool _
 | int k n=>rw [h.dV]; exact .int _ _
 | str s=>obtain ⟨b,rfl,rfl⟩:=h.eH; exact .str _
 | _=>cases hp
def rT (es:List (V × V)):Prop:=∀ e ∈ es,(∃ k,e.1 = .str k) /\ plainCell e.2 = true
theorem Cn {es:List (V × V)} (h:EL es = true):rT es:=by
 intro e he
 simp only [EL,List.all_eq_true] at h
 have:=h e he
 simp only [Bool.and_eq_true] at this
 refine ⟨?_,this.2⟩
 cases hk:e.1 with
 | str k=>exact ⟨k,rfl⟩
 | _=>rw [hk] at this; simp at this
theorem rT.strs {es:List (V × V)} (h:rT es):iL es:=fun e he=>(h e he).1
theorem iD.copy {c c':Cx} {es:List (V × V)} {l:List MapEntry} (ho:rT es) (h:iD c es l):iD c' es l:=by
 induction h with
 | nil=>exact .nil
 | cons k v es e l hk hv hr ih=>
  obtain ⟨⟨s,rfl⟩,hp⟩:=ho _ (mem_cons_self ..)
  refine .cons _ _ _ _ _ ?_ (Mu hp hv) (ih fun e he=>ho e (mem_cons_of_mem _ he))
  cases hk with | one hk=>
  exact .one (vH (c:=c) rfl (.inl hk))
theorem iD.XD {c:Cx} {w:World} {I:Bool -> Nat -> Prop} {es:List (V × V)} {l:List MapEntry} (ho:rT es) (h:iD c es l):qJ w I es l:=by
 induction h with
 | nil=>exact .nil
 | cons k v es e l hk hv hr ih=>
  obtain ⟨⟨s,rfl⟩,hp⟩:=ho _ (mem_cons_self ..)
  refine .cons _ _ _ _ _ ?_ (.one (vH hp hv)) (ih fun e he=>ho e (mem_cons_of_mem _ he))
  cases hk with | one hk=>
  exact .one (vH (c:=c) rfl (.inl hk))
theorem iD.keys {c:Cx} {es:List (V × V)} {l:List MapEntry} (ho:iL es) (h:iD c es l) (hn:(l.map (·.key)).Nodup):(es.map ks).Nodup:=by
 induction h with
 | nil=>simp
 | cons k v es e l hk hv hr ih=>
  obtain ⟨s,hs⟩:=ho (k,v) (mem_cons_self ..)
  simp only at hs
  subst hs
  simp only [map_cons,nodup_cons] at hn ⊢
  refine ⟨fun hm=>hn.1 ?_,ih (fun e he=>ho e (mem_cons_of_mem _ he)) hn.2⟩
  obtain ⟨x,hx,hxk⟩:=mem_map.1 hm
  obtain ⟨b,hb,hbs⟩:=(qK.vr hk).eH
  have find:∀ {es:List (V × V)} {l:List MapEntry},iD c es l -> x ∈ es -> ∃ m ∈ l,qK c.w c.bB x.1 m.key:=by
   intro es l h
   induction h with
   | nil=>intro hx; cases hx
   | cons k' v' es e' l hk' hv' hr' ih'=>
    intro hx
    rcases mem_cons.1 hx with rfl | hx
    ·exact ⟨e',mem_cons_self ..,hk'⟩
    ·obtain ⟨m,h1,h2⟩:=ih' hx
     exact ⟨m,mem_cons_of_mem _ h1,h2⟩
  obtain ⟨m,hm1,hm2⟩:=find hr hx
  obtain ⟨s',hs'⟩:=ho x (mem_cons_of_mem _ hx)
  rw [hs'] at hm2
  obtain ⟨b',hb',hbs'⟩:=(qK.vr hm2).eH
  have e1:s' = s:=by
   have:ks x = s:=hxk
   obtain ⟨x1,x2⟩:=x
   simp only at hs'
   subst hs'
   exact this
  subst e1
  have:b' = b:=bytes_inj (by rw [hbs,hbs'])
  rw [hb]
  exact mem_map.2 ⟨m,hm1,by rw [hb',this]⟩
end
end
end Go.Ax
end
section
namespace Go.Ax
open Go Go.Proofs
section
theorem bV {E:Env} {t sz by_:Nat} {z:V} (h:E.ty t = some { kd:=.str,size:=sz,bytes:=by_,zero:=z }):eX E t = iE:=by
 funext x y
 unfold eX iE
 rw [h]
 cases x <;> first | rfl | (cases y <;> rfl)
def xQ:Code -> Code
 | .seq _ (.block _ (.loop c))=>c
 | c=>c
section
variable {E:Env} {sz by_ sz9 by9:Nat} {zv z9:V}
theorem Mv {v:V} (h:plainCell v = true):eR v = true:=by cases v <;> first | rfl | cases h
theorem Cm (hty:E.ty 98 = some { kd:=.map 9 4,size:=sz,bytes:=by_,zero:=zv }) (h9:E.ty 9 = some { kd:=.str,size:=sz9,bytes:=by9,zero:=z9 })
  (n:Nat) (fr:Fr) (hn:fr.n = 16) (b L:Nat) (hbL:b ≠ L) (h0:fr.get 0 = some (.mp b)) (h7:fr.get 7 = some (.ref L 0)) (Z:Sg) (left:List (V × V)) (cur:Option (V × V)) (es:List (V × V)) (hL:Z[L]? = some (.qY left cur)) (hb:Z[b]? = some (.map es)) (Q:X -> Fr -> Sg -> Prop)
  (hok:rT left)
  (h1:left = [] -> ∀ fr,Q (.exit 0) fr Z)
  (h2:∀ a e z,left = a ++ e :: z -> ∃ es',jI iE e.1 e.2 es = some es' /\ ∀ fr:Fr,fr.n = 16 -> fr.get 0 = some (.mp b) -> fr.get 7 = some (.ref L 0) -> Q .normal fr ((Z.set L (.qY (a ++ z) (some e))).set b (.map es'))) :
  eF E (n + 20) (xQ (aA Tryz.f136).code) fr Z Q:=by
 simp only [aA,Tryz.f136,Option.getD_some,xQ]
 have hLs:∀ o,(Z.set L o)[L]? = some o:=fun o=>by
  have:=(List.getElem?_eq_some_iff.1 hL).1
  simp [this]
 have hLb:∀ o,(Z.set L o)[b]? = some (.map es):=fun o=>by rw [getElem?_set_ne (fun e=>hbL e.symm)]; exact hb
 simp only [eF,cG,dJ,bW,Dl,aP,h7,hL,if_true,true_and,eG,bJ,kC,comp,aO,cI,yP,dH,Option.map_some,Fr.aD,Fr.aV,hn,h0,getElem?_cons_zero,getElem?_cons_succ,
  reduceEqDiff,reduceLT,and_true,if_false,reduceCtorEq,hLs,hLb,mapUpdate,hty]
 refine ⟨?_,?_⟩
 ·intro hl
  exact h1 hl _
 ·intro a e z' hl
  obtain ⟨es',hm,hq⟩:=h2 a e z' hl
  obtain ⟨⟨k,hk⟩,hp⟩:=hok e (by rw [hl]; simp)
  have hko:dM E 9 e.1 = true:=by simp only [dM,h9,hk]
  have hvo:eR e.2 = true:=Mv hp
  rw [bV h9]
  simp only [hko,hvo,Bool.not_true,Bool.or_self,Bool.false_eq_true,if_false,hm,Option.map_some]
  refine hq _ ?_ ?_ ?_ <;> simp only [Fr.aD,Fr.aV,hn,h0,h7,reduceEqDiff,reduceLT,and_true,if_false,reduceCtorEq]
theorem Mc (Z:Sg) (x y:O):(Z ++ [x]).set Z.length y = Z ++ [y]:=by simp
theorem J7 (Z:Sg) (x y:O) {b:Nat} (h:b < Z.length):(Z ++ [x]).set b y = Z.set b y ++ [x]:=by rw [List.set_append_left _ _ h]
theorem KY (hty:E.ty 98 = some { kd:=.map 9 4,size:=sz,bytes:=by_,zero:=zv }) (h9:E.ty 9 = some { kd:=.str,size:=sz9,bytes:=by9,zero:=z9 })
  {es0 src:List (V × V)} (hs0:iL es0) (hn0:(es0.map ks).Nodup) (hsrc:rT src) (hns:(src.map ks).Nodup) {b:Nat} {σ0:Sg} (hb:b < σ0.length) :
  ∀ (m:Nat) (left p es:List (V × V)) (cur:Option (V × V)) (fr:Fr),left.length = m -> (p ++ left).Perm src -> kL es0 p = some es -> fr.n = 16 -> fr.get 0 = some (.mp b) -> fr.get 7 = some (.ref σ0.length 0) ->
   eF E (m + 21) (.loop (xQ (aA Tryz.f136).code)) fr (σ0.set b (.map es) ++ [.qY left cur]) fun x fr Z=>x = .exit 0 /\ ∃ es2 p2 cur2,p2.Perm src /\ kL es0 p2 = some es2 /\ Z = σ0.set b (.map es2) ++ [.qY [] cur2]:=by
 intro m
 induction m with
 | zero=>
  intro left p es cur fr hl hp he hn h0 h7
  have:left = []:=List.length_eq_zero_iff.1 hl
  subst this
  show eF E (20 + 1) _ _ _ _
  rw [eF]
  refine Cm hty h9 0 fr hn b σ0.length (by omega) h0 h7 _ [] cur es (by simp) (by rw [getElem?_append_left (by simpa using hb)]; simp [hb]) _ (fun e he=>by cases he) ?_ ?_
  ·intro _ fr'
   exact ⟨rfl,es,p,cur,by simpa using hp,he,rfl⟩
  ·intro a e z h
   simp at h
 | succ m ih=>
  intro left p es cur fr hl hp he hn h0 h7
  show eF E ((m + 1) + 20 + 1) _ _ _ _
  rw [eF]
  have hmem:∀ e ∈ left,e ∈ src:=fun e h=>hp.mem_iff.1 (List.mem_append_right _ h)
  refine Cm hty h9 (m + 1) fr hn b σ0.length (by omega) h0 h7 _ left cur es (by simp) (by rw [getElem?_append_left (by simpa using hb)]; simp [hb]) _ (fun e h=>hsrc e (hmem e h)) ?_ ?_
  ·intro h
   rw [h] at hl
   simp at hl
  ·intro a e z h
   subst h
   have hp2:((p ++ [e]) ++ (a ++ z)).Perm src:=by
    refine List.Perm.trans ?_ hp
    rw [append_assoc]
    exact List.Perm.append_left p (by simpa using (List.perm_middle (l₁:=a) (a:=e) (l₂:=z)).symm)
   have hpn:((p ++ [e]).map ks).Nodup:=by
    have:=(hp2.map ks).nodup_iff.2 hns
    rw [List.map_append] at this
    exact (nodup_append.1 this).1
   have hps:iL (p ++ [e]):=fun x hx=>(hsrc x (hp2.mem_iff.1 (List.mem_append_left _ hx))).1
   obtain ⟨l2,g1,g2,g3,_⟩:=nY hps hpn hs0 hn0
   have RS:∀ (p:List (V × V)) (es0 es:List (V × V)),kL es0 p = some es -> kL es0 (p ++ [e]) = jI iE e.1 e.2 es:=by
    intro p
    induction p with
    | nil=>
     intro es0 es h
     simp only [kL] at h
     injection h with h; subst h
     simp only [List.nil_append,kL]
     cases jI iE e.1 e.2 es0 <;> rfl
    | cons x p ih=>
     intro es0 es h
     simp only [kL] at h
     simp only [List.cons_append,kL]
     split at h
     ·exact ih _ _ h
     ·cases h
   have hm:=RS p es0 es he
   rw [g1] at hm
   refine ⟨l2,hm.symm,fun fr' k1 k2 k3=>?_⟩
   have:=ih (a ++ z) (p ++ [e]) l2 (some e) fr' (by simp at hl ⊢; omega) hp2 g1 k1 k2 k3
   have e1:((σ0.set b (O.map es) ++ [O.qY (a ++ e :: z) cur]).set σ0.length (O.qY (a ++ z) (some e))).set b (O.map l2) = σ0.set b (O.map l2) ++ [O.qY (a ++ z) (some e)]:=by
    have h1:=Mc (σ0.set b (.map es)) (O.qY (a ++ e :: z) cur) (O.qY (a ++ z) (some e))
    rw [List.length_set] at h1
    rw [h1,J7 _ _ _ (by simpa using hb),List.set_set]
   rw [e1]
   exact this
theorem d_:∀ (n:Nat) {c:Code} {fr:Fr} {Z:Sg} {Q Q':X -> Fr -> Sg -> Prop},eF E n c fr Z Q -> (∀ x fr Z,Q x fr Z -> Q' x fr Z) -> eF E n c fr Z Q'
 | 0,_,_,_,_,_,h,_=>by simp only [eF] at h
 | n + 1,c,fr,Z,Q,Q',h,hq=>by
  have ops:∀ (ops:Array Oper) (l:List Oper) (fr:Fr) (Z:Sg),cG E (ev E n) ops l fr Z (Q .normal) -> cG E (ev E n) ops l fr Z (Q' .normal):=by
   intro ops l
   induction l with
   | nil=>intro fr Z h; exact hq _ _ _ h
   | cons o l ih=>
    intro fr Z h
    simp only [cG] at h ⊢
    split
    ·rename_i x hx
     rw [hx] at h
     simp only at h
     refine ⟨h.1,?_⟩
     have h:=h.2
     unfold Dl at h ⊢
     split
     ·rename_i bb hbb
      rw [hbb] at h
      simp only at h
      split
      ·rename_i lf cu hlf
       rw [hlf] at h
       exact ⟨fun e=>ih _ _ (h.1 e),fun a e z e'=>ih _ _ (h.2 a e z e')⟩
      ·rename_i hne
       split at h
       ·rename_i lf cu hlf
        exact (hne _ _ hlf).elim
       ·exact h
     ·rename_i hne
      split at h
      ·rename_i bb hbb
       exact (hne _ hbb).elim
      ·exact h
    ·rename_i hx
     rw [hx] at h
     simp only at h
     split
     ·rename_i fr' σ' hst
      rw [hst] at h
      exact ih _ _ h
     ·rename_i hst
      rw [hst] at h
      exact h
  cases c with
  | skip=>simp only [eF] at h ⊢; exact hq _ _ _ h
  | exit id=>simp only [eF] at h ⊢; exact hq _ _ _ h
  | ret=>simp only [eF] at h ⊢; exact hq _ _ _ h
  | seq a b=>
   rw [eF] at h ⊢
   refine d_ n h ?_
   intro x fr Z hx
   cases x with
   | normal=>exact d_ n hx hq
   | exit id=>exact hq _ _ _ hx
   | ret=>exact hq _ _ _ hx
  | cond x y z=>
   simp only [eF] at h ⊢
   split
   ·rename_i hc; rw [hc] at h; exact d_ n h hq
   ·rename_i hc; rw [hc] at h; exact d_ n h hq
   ·rename_i h1 h2
    split at h
    ·rename_i hc; exact (h1 hc).elim
    ·rename_i hc; exact (h2 hc).elim
    ·exact h
  | block id a=>
   rw [eF] at h ⊢
   refine d_ n h ?_
   intro x fr Z hx
   cases x with
   | normal=>exact hq _ _ _ hx
   | exit id'=>
    simp only at hx ⊢
    split
    ·rename_i e; rw [if_pos e] at hx; exact hq _ _ _ hx
    ·rename_i e; rw [if_neg e] at hx; exact hq _ _ _ hx
   | ret=>exact hq _ _ _ hx
  | loop a=>
   rw [eF] at h ⊢
   refine d_ n h ?_
   intro x fr Z hx
   cases x with
   | normal=>exact d_ n hx hq
   | exit id=>exact hq _ _ _ hx
   | ret=>exact hq _ _ _ hx
  | region id ops' draw=>
   simp only [eF] at h ⊢
   cases draw with
   | true=>
    simp only at h ⊢
    split
    ·rename_i hd; rw [hd] at h; exact hq _ _ _ h
    ·rename_i hd; rw [hd] at h; exact h
   | false=>exact ops _ _ _ _ h
  | _=>simp only [eF] at h
def Co:Code -> Code
 | .seq r _=>r
 | c=>c
theorem KZ (hty:E.ty 98 = some { kd:=.map 9 4,size:=sz,bytes:=by_,zero:=zv }) (n:Nat) {fr0:Fr} (hn:fr0.n = 16) {b:Nat} (h0:fr0.get 0 = some (.mp b)) {y:V} (h1:fr0.get 1 = some y) {src:List (V × V)} (hy:(∃ g,y = .imp g src) \/ (y = .bS /\ src = [])) {σ0:Sg}
  {Q:X -> Fr -> Sg -> Prop} (hq:∀ fr:Fr,fr.n = 16 -> fr.get 0 = some (.mp b) -> fr.get 7 = some (.ref σ0.length 0) -> Q .normal fr (σ0 ++ [.qY src none])):eF E (n + 1) (Co (aA Tryz.f136).code) fr0 σ0 Q:=by
 simp only [aA,Tryz.f136,Option.getD_some,Co]
 rcases hy with ⟨g,rfl⟩ | ⟨rfl,rfl⟩
 ·simp only [eF,cG,dJ,bW,aP,if_true,eG,bJ,kC,comp,aO,oA,Option.map_some,Fr.aD,hn,h1,reduceLT,and_true,hty]
  refine hq _ ?_ ?_ ?_ <;> simp only [Fr.aD,Fr.aV,hn,h0,reduceEqDiff,reduceLT,and_true,if_false,if_true,reduceCtorEq]
 ·simp only [eF,cG,dJ,bW,aP,if_true,eG,bJ,kC,comp,aO,oA,Option.map_some,Fr.aD,hn,h1,reduceLT,and_true,hty]
  refine hq _ ?_ ?_ ?_ <;> simp only [Fr.aD,Fr.aV,hn,h0,reduceEqDiff,reduceLT,and_true,if_false,if_true,reduceCtorEq]
theorem Gy (hty:E.ty 98 = some { kd:=.map 9 4,size:=sz,bytes:=by_,zero:=zv }) (h9:E.ty 9 = some { kd:=.str,size:=sz9,bytes:=by9,zero:=z9 })
  {es0 src:List (V × V)} (hs0:iL es0) (hn0:(es0.map ks).Nodup) (hsrc:rT src) (hns:(src.map ks).Nodup) {b:Nat} {σ0:Sg} (hb:σ0[b]? = some (.map es0)) {y:V} (hy:(∃ g,y = .imp g src) \/ (y = .bS /\ src = [])) :
  A2 E (src.length + 23) (aA Tryz.f136) [.mp b,y] σ0 fun v Z=>v = .fN [] /\ ∃ es2 p2 cur2,p2.Perm src /\ kL es0 p2 = some es2 /\ Z = σ0.set b (.map es2) ++ [.qY [] cur2]:=by
 have hbl:b < σ0.length:=(List.getElem?_eq_some_iff.1 hb).1
 have hset:σ0.set b (.map es0) = σ0:=by
  apply List.ext_getElem?
  intro j
  by_cases e:b = j
  ·subst e; rw [hb]; simp [hbl]
  ·rw [getElem?_set_ne e]
 obtain ⟨fr0,hfr0⟩:∃ fr0,Fr.init (aA Tryz.f136).ntmps [V.mp b,y] = some fr0:=⟨_,rfl⟩
 have hn:fr0.n = 16:=by injection hfr0 with h; rw [<- h]; rfl
 have h0:fr0.get 0 = some (.mp b):=by injection hfr0 with h; rw [<- h]; rfl
 have h1:fr0.get 1 = some y:=by injection hfr0 with h; rw [<- h]; rfl
 refine ⟨fr0,hfr0,?_⟩
 show eF E ((src.length + 22) + 1) (.seq (Co (aA Tryz.f136).code) (.block 0 (.loop (xQ (aA Tryz.f136).code)))) _ _ _
 rw [eF]
 refine KZ hty (src.length + 21) hn h0 h1 hy fun fr k1 k2 k3=>?_
 show eF E ((src.length + 21) + 1) _ _ _ _
 rw [eF]
 have:=KY hty h9 hs0 hn0 hsrc hns hbl (src.length) src [] es0 none fr rfl (by simp) rfl k1 k2 k3
 rw [hset] at this
 refine d_ _ this ?_
 rintro x fr' σ' ⟨rfl,es2,p2,cur2,g1,g2,g3⟩
 simp only [if_true]
 exact ⟨by simp,[],rfl,rfl,es2,p2,cur2,g1,g2,g3⟩
end
theorem Nc {E:Env} (he:cQ Tryz.prog E) (hfs:mU Tryz.prog E) (hmix:Tryz.prog.follows .mixedOrders = true) (hF:E.fn 136 = some (aA Tryz.f136)) {sz by_ sz9 by9:Nat} {zv z9:V}
  (hty:E.ty 98 = some { kd:=.map 9 4,size:=sz,bytes:=by_,zero:=zv }) (h9:E.ty 9 = some { kd:=.str,size:=sz9,bytes:=by9,zero:=z9 }):gH Tryz.prog E 136 Jt:=by
 intro c vs xs v σ' hs hv h
 unfold Jt at h
 split at h
 case h_2=>cases h
 rename_i b y
 split at h
 case h_2=>cases h
 rename_i es0 src hob hent
 split at h
 case h_2=>cases h
 rename_i l hok hne hput
 injection h with h; injection h with e1 e2; subst e1 e2
 simp only [Bool.and_eq_true] at hok
 have ho0:=Cn hok.1
 have ho1:=Cn hok.2
 have hlv:live c.Z b:=⟨_,hob,rfl⟩
 have hbl:=dL hlv
 obtain ⟨hs1,hx1⟩:=Cx.N0 hs b
 have hob1:(c.aside b).Z[b]? = some (.map es0):=by rw [<- hob]; exact vU
 obtain ⟨en0,cl0,g1,g2,l0,g3,g4⟩:=hs.obj b _ hob
 have hn0:(es0.map ks).Nodup:=g4.keys ho0.strs ((g3.map _).nodup_iff.2 g2.st.2.2)
 cases hv with | cons _ x _ xs hx hr=>
 cases hr with | cons _ yv _ ys hyv hr=>
 cases hr
 obtain ⟨y',hy',hyv',hns⟩:∃ y',((∃ g,y' = .imp g src) \/ (y' = .bS /\ src = [])) /\ VR (c.aside b) y' yv /\ (src.map ks).Nodup:=by
  unfold entriesOf at hent
  split at hent
  ·injection hent with hent; subst hent
   exact ⟨.bS,.inr ⟨rfl,rfl⟩,hyv.mono hx1,by simp⟩
  ·rename_i g es
   injection hent with hent; subst hent
   obtain ⟨blk,en,cl,l1,rfl,hi,hh,hm,hp,hmr⟩:=hyv.rE
   exact ⟨_,.inl ⟨g,rfl⟩,hyv.mono hx1,hmr.MN.keys ho1.strs ((hp.map _).nodup_iff.2 hm.st.2.2)⟩
  ·rename_i b'
   split at hent
   ·rename_i es hob'
    injection hent with hent; subst hent
    obtain ⟨rfl,hb'⟩:=hyv.vM
    obtain ⟨en,cl,k1,k2,l1,k3,k4⟩:=hs.obj b' _ hob'
    have hne':b ≠ b':=by
     simp only [Bool.not_eq_true'] at hne
     exact Nat.ne_of_beq_eq_false hne
    refine ⟨.imp false es,.inl ⟨false,rfl⟩,.inl (.imp false es _ en cl l1 ⟨iY k1,?_,fun _=>hs.mT b' ⟨_,hob',rfl⟩⟩ k1 k2 k3 (k4.XD ho1)),k4.keys ho1.strs ((k3.map _).nodup_iff.2 k2.st.2.2)⟩
    rintro ⟨j,hj,e⟩
    obtain ⟨rfl,_⟩:=kR hj
    exact hne' (hs.inj _ _ hlv ⟨_,hob',rfl⟩ e)
   ·cases hent
  ·cases hent
 refine uL hfs hF ?_
 have hargs:eY (c.aside b) [.mp b,y'] [x,yv]:=.cons _ _ _ _ (hx.mono hx1) (.cons _ _ _ _ hyv' .nil)
 refine (uR he hfs hmix hF hs1 hargs (Gy hty h9 ho0.strs hn0 ho1 hns hob1 hy')).mono ?_
 rintro e w' ⟨r,u,σ1,rfl,⟨rfl,es2,p2,cur2,q1,q2,q3⟩,c',rfl,hσ,hx',hs',hr'⟩
 subst q3
 refine ⟨r,rfl,?_⟩
 obtain ⟨l2,q4,q5,q6,q7⟩:=nY (p:=p2) (fun e he=>ho1.strs e (q1.mem_iff.1 he)) ((q1.map ks).nodup_iff.2 hns) ho0.strs hn0
 rw [q2] at q4; injection q4 with q4; subst q4
 have ho2:rT es2:=fun e he=>by
  rcases (q7 e).1 he with he | ⟨he,_⟩
  ·exact ho1 e (q1.mem_iff.1 he)
  ·exact ho0 e he
 have hperm:es2.Perm l:=FB q1 (fun e he=>ho1.strs e (q1.mem_iff.1 he)) ((q1.map ks).nodup_iff.2 hns) ho0.strs hn0 q2 hput
 have hlen1:(c.aside b).Z.length = c.Z.length:=nR _ _
 have hdob:c'.Z[b]? = some (.map es2):=by
  rw [hσ,getElem?_append_left (by rw [List.length_set,hlen1]; exact hbl)]
  simp [hlen1,hbl]
 obtain ⟨en,cl,k1,k2,l3,k3,k4⟩:=hs'.obj b _ hdob
 obtain ⟨r1,r2⟩:=SR.restore (o:=.map l) (σ3:=c.Z.set b (.map l) ++ [.dead]) hs hlv hx' (by rw [hσ]; simp [hlen1]) (fun j hj hjb=>by
   rw [getElem?_append_left (by simpa using hj),getElem?_set_ne (fun e=>hjb e.symm)]) (by
   rw [getElem?_append_left (by simpa using hbl)]; simp [hbl]) (fun j o hj ho=>by
   rw [List.getElem?_append_right (by simpa using hj)] at ho
   rcases Nat.eq_zero_or_pos (j - (c.Z.set b (.map l)).length) with h0 | h0
   ·rw [h0] at ho; simpa using ho.symm
   ·rw [List.getElem?_eq_none (by simp at h0 ⊢; omega)] at ho; cases ho) (fun _=>by
   obtain ⟨l4,m1,m2⟩:=k4.perm hperm
   refine ⟨en,cl,k1,k2,l4,m1.symm.trans k3,m2.copy fun e he=>ho2 e (hperm.mem_iff.2 he)⟩) hs'.iF
 exact ⟨{ c' with Z:=c.Z.set b (.map l) ++ [.dead] },rfl,rfl,r2,r1,by
  obtain ⟨ys,rfl,hys⟩:=hr'.D9
  cases hys
  exact .fN [] [] .nil⟩
end
end Go.Ax
end
section
namespace Go.Ax
open Go
theorem kI {a b:List Nat}:seq a b = true ↔ a = b:=by rw [seq_eq,decide_eq_true_eq]
theorem jO {a b:List Nat}:seq a b = false ↔ a ≠ b:=by rw [seq_eq,decide_eq_false_iff_not]
theorem pZ {s:List Nat}:∀ {l:List (List Nat)},mem s l = true ↔ s ∈ l
 | []=>by simp [mem]
 | a :: r=>by
  simp only [mem]
  cases h:seq a s with
  | true=>rw [kI] at h; simp [h]
  | false=>rw [jO] at h; simp [pZ (l:=r),h.symm]
theorem zN {m:List (List Nat)}:∀ {l:List (List Nat)},DT l m = true ↔ ∃ a ∈ l,a ∈ m
 | []=>by simp [DT]
 | a :: r=>by
  simp only [DT]
  cases h:mem a m with
  | true=>rw [pZ] at h; simp [h]
  | false=>
   have:a ∉ m:=fun g=>by rw [<- pZ,h] at g; cases g
   simp [zN (l:=r),this]
def SV (v:V) (l:List (List Nat)):Prop:=(v = .aC /\ l = []) \/ ∃ g full,v = .bQ g (l.map fun s=>[V.str s]) full
def fC (es:List (V × V)):Prop:=∀ e ∈ es,(∃ k,e.1 = .str k) /\ SV e.2 (iA e.2)
theorem Hg:∀ {xs:List (List V)},tP xs = true -> xs = (mF xs).map fun s=>[V.str s]:=by
 intro xs
 fun_induction tP xs with
 | case1=>intro _; rfl
 | case2 s r ih=>intro h; simp only [mF,map_cons,<- ih h]
 | case3=>intro h; cases h
theorem kQ {es:List (V × V)}:lP es = true -> fC es:=by
 fun_induction lP es with
 | case1=>intro _ e he; cases he
 | case2 k g xs f r h ih=>
  intro h' e he
  rcases mem_cons.1 he with rfl | he
  ·rw [Bool.and_eq_true] at h
   exact ⟨⟨k,rfl⟩,.inr ⟨g,f,by simp only [iA]; rw [<- Hg h.1]⟩⟩
  ·exact ih h' e he
 | case3=>intro h; cases h
 | case4 k r ih=>
  intro h' e he
  rcases mem_cons.1 he with rfl | he
  ·exact ⟨⟨k,rfl⟩,.inl ⟨rfl,rfl⟩⟩
  ·exact ih h' e he
 | case5=>intro h; cases h
theorem Fw:∀ xs:List (List V),(mF xs).length <= xs.length:=by
 intro xs
 fun_induction mF xs with
 | case1 s r ih=>simp only [length_cons]; omega
 | case2=>simp
theorem Cz {es:List (V × V)}:lP es = true -> ∀ e ∈ es,(iA e.2).length <= 1000000:=by
 fun_induction lP es with
 | case1=>intro _ e he; cases he
 | case2 k g xs f r h ih=>
  intro h' e he
  rcases mem_cons.1 he with rfl | he
  ·rw [Bool.and_eq_true,Nat.ble_eq] at h
   have:=Fw xs
   simp only [iA]
   omega
  ·exact ih h' e he
 | case3=>intro h; cases h
 | case4 k r ih=>
  intro h' e he
  rcases mem_cons.1 he with rfl | he
  ·simp [iA]
  ·exact ih h' e he
 | case5=>intro h; cases h
theorem fC.tail {e:V × V} {es:List (V × V)} (h:fC (e :: es)):fC es:=fun x hx=>h x (mem_cons_of_mem _ hx)
theorem HR {k:List Nat} {es:List (V × V)}:fZ.hasKey k es = false -> iL es -> k ∉ es.map ks:=by
 fun_induction fZ.hasKey k es with
 | case1=>intro _ _; simp
 | case2=>intro h; cases h
 | case3 k' v r h ih=>
  intro h' ha
  rw [jO] at h
  simp only [map_cons,mem_cons,not_or]
  exact ⟨fun e=>h (by rw [e]; rfl),ih h' fun e he=>ha e (mem_cons_of_mem _ he)⟩
 | case4 x r hx ih=>
  intro h' ha
  obtain ⟨q,hq⟩:=ha x (mem_cons_self ..)
  obtain ⟨x1,x2⟩:=x
  simp only at hq
  subst hq
  exact (hx _ _ rfl).elim
theorem CN {es:List (V × V)}:fZ es = true -> iL es -> (es.map ks).Nodup:=by
 fun_induction fZ es with
 | case1=>intro _ _; simp
 | case2=>intro h; cases h
 | case3 k v r h ih=>
  intro h' ha
  have hr:iL r:=fun e he=>ha e (mem_cons_of_mem _ he)
  simp only [map_cons,nodup_cons]
  exact ⟨HR h hr,ih h' hr⟩
 | case4=>intro h; cases h
def valOf (es:List (V × V)) (x:List Nat):V:=
 match es with
 | (.str k,v) :: r=>match seq k x with
  | true=>v
  | false=>valOf r x
 | _ :: r=>valOf r x
 | []=>.aC
theorem sG {x:List Nat}:∀ {es:List (V × V)},fC es -> SV (valOf es x) (bA es x)
 | [],_=>.inl ⟨rfl,rfl⟩
 | (k',v) :: es,h=>by
  obtain ⟨⟨k,hk⟩,hv⟩:=h _ (mem_cons_self ..)
  simp only at hk hv
  subst hk
  simp only [valOf,bA]
  cases seq k x with
  | true=>exact hv
  | false=>exact sG h.tail
theorem xI {x:List Nat}:∀ {es:List (V × V)},fC es -> ∃ r,iX iE (.str x) es = some r /\ r.getD .aC = valOf es x
 | [],_=>⟨none,rfl,rfl⟩
 | (k',v) :: es,h=>by
  obtain ⟨⟨k,hk⟩,hv⟩:=h _ (mem_cons_self ..)
  simp only at hk hv
  subst hk
  have e:iE (.str x) (.str k) = some (seq k x):=by
   simp only [iE,seq_eq]
   exact congrArg some (decide_eq_decide.2 ⟨fun h=>h.symm,fun h=>h.symm⟩)
  simp only [iX,e,valOf]
  cases seq k x with
  | true=>exact ⟨some v,rfl,rfl⟩
  | false=>exact xI h.tail
theorem qX {es:List (V × V)} (h:fC es) (hn:(es.map ks).Nodup) {k:List Nat} {v:V} (he:(V.str k,v) ∈ es):bA es k = iA v:=by
 induction es with
 | nil=>cases he
 | cons e es ih=>
  obtain ⟨k',v'⟩:=e
  obtain ⟨⟨q,hq⟩,_⟩:=h _ (mem_cons_self ..)
  simp only at hq
  subst hq
  simp only [map_cons,nodup_cons] at hn
  simp only [bA]
  rcases mem_cons.1 he with he | he
  ·injection he with h1 h2
   injection h1 with h1
   subst h1 h2
   rw [show seq k k = true from kI.2 rfl]
  ·have:q ≠ k:=fun e=>hn.1 (by rw [show ks (V.str q,v') = q from rfl,e]; exact mem_map.2 ⟨_,he,rfl⟩)
   rw [show seq q k = false from jO.2 this]
   exact ih h.tail hn.2 he
theorem wY {es:List (V × V)} (h:fC es) {x nx:List Nat} (hx:nx ∈ bA es x):∃ v,(V.str x,v) ∈ es /\ nx ∈ iA v:=by
 induction es with
 | nil=>cases hx
 | cons e es ih=>
  obtain ⟨k',v'⟩:=e
  obtain ⟨⟨q,hq⟩,_⟩:=h _ (mem_cons_self ..)
  simp only at hq
  subst hq
  simp only [bA] at hx
  cases hs:seq q x with
  | true=>
   rw [hs] at hx
   rw [kI] at hs
   subst hs
   exact ⟨v',mem_cons_self ..,hx⟩
  | false=>
   rw [hs] at hx
   obtain ⟨v,h1,h2⟩:=ih h.tail hx
   exact ⟨v,mem_cons_of_mem _ h1,h2⟩
inductive AL (es:List (V × V)) (f:List Nat):Nat -> List Nat -> Prop
 | zero:AL es f 0 f
 | succ {k:Nat} {x nx:List Nat} (h:nx ∈ bA es x) (hr:AL es f k nx):AL es f (k + 1) x
theorem Kt {es:List (V × V)} (h:fC es) (hn:(es.map ks).Nodup) {m:List (List Nat)} {x:List Nat}:x ∈ uP m es ↔ ∃ nx ∈ bA es x,nx ∈ m:=by
 have key:∀ {l:List (V × V)},fC l -> (x ∈ uP m l ↔ ∃ v,(V.str x,v) ∈ l /\ ∃ nx ∈ iA v,nx ∈ m):=by
  intro l
  induction l with
  | nil=>intro _; simp [uP]
  | cons e l ih=>
   intro h
   obtain ⟨k',v'⟩:=e
   obtain ⟨⟨q,hq⟩,_⟩:=h _ (mem_cons_self ..)
   simp only at hq
   subst hq
   simp only [uP]
   have ih:=ih h.tail
   cases ha:DT (iA v') m with
   | true=>
    rw [zN] at ha
    simp only [mem_cons,ih]
    constructor
    ·rintro (rfl | ⟨v,h1,h2⟩)
     ·exact ⟨v',.inl rfl,ha⟩
     ·exact ⟨v,.inr h1,h2⟩
    ·rintro ⟨v,h1 | h1,h2⟩
     ·injection h1 with h1 _; injection h1 with h1; exact .inl h1
     ·exact .inr ⟨v,h1,h2⟩
   | false=>
    have hna:¬ ∃ a ∈ iA v',a ∈ m:=fun g=>by rw [<- zN,ha] at g; cases g
    rw [ih]
    constructor
    ·rintro ⟨v,h1,h2⟩; exact ⟨v,mem_cons_of_mem _ h1,h2⟩
    ·rintro ⟨v,h1,h2⟩
     rcases mem_cons.1 h1 with h1 | h1
     ·injection h1 with _ h1; subst h1; exact absurd h2 hna
     ·exact ⟨v,h1,h2⟩
 rw [key h]
 constructor
 ·rintro ⟨v,h1,nx,h2,h3⟩
  exact ⟨nx,by rw [qX h hn h1]; exact h2,h3⟩
 ·rintro ⟨nx,h1,h2⟩
  obtain ⟨v,h3,h4⟩:=wY h h1
  exact ⟨v,h3,nx,h4,h2⟩
theorem vQ {es:List (V × V)}:∀ (n:Nat) (m:List (List Nat)),(dI es n m).length = n + 1 /\ (dI es n m)[0]? = some m /\ ∀ j l,(dI es n m)[j]? = some l -> j < n -> (dI es n m)[j + 1]? = some (uP l es)
 | 0,m=>⟨rfl,rfl,fun j l h hj=>by omega⟩
 | n + 1,m=>by
  obtain ⟨h1,h2,h3⟩:=vQ (es:=es) n (uP m es)
  refine ⟨by simp [dI,h1],rfl,fun j l h hj=>?_⟩
  cases j with
  | zero=>
   simp only [dI,getElem?_cons_zero] at h
   injection h with h; subst h
   simpa [dI] using h2
  | succ j=>
   simp only [dI,getElem?_cons_succ] at h ⊢
   exact h3 j l h (by omega)
theorem oD {es:List (V × V)} (h:fC es) (hn:(es.map ks).Nodup) (f:List Nat) (n:Nat):∀ (j:Nat) (l:List (List Nat)),(dI es n [f])[j]? = some l -> ∀ x,x ∈ l ↔ AL es f j x:=by
 intro j
 obtain ⟨h1,h2,h3⟩:=vQ (es:=es) n [f]
 induction j with
 | zero=>
  intro l hl x
  rw [h2] at hl
  injection hl with hl; subst hl
  simp only [mem_singleton]
  constructor
  ·rintro rfl; exact .zero
  ·intro hr; cases hr; rfl
 | succ j ih=>
  intro l hl x
  have hj:j + 1 < n + 1:=by rw [<- h1]; exact (List.getElem?_eq_some_iff.1 hl).1
  obtain ⟨l0,hl0⟩:∃ l0,(dI es n [f])[j]? = some l0:=⟨_,List.getElem?_eq_getElem (by omega)⟩
  rw [h3 j l0 hl0 (by omega)] at hl
  injection hl with hl; subst hl
  rw [Kt h hn]
  constructor
  ·rintro ⟨nx,g1,g2⟩; exact .succ g1 ((ih l0 hl0 nx).1 g2)
  ·intro hr
   cases hr with | succ g1 g2=>exact ⟨_,g1,(ih l0 hl0 _).2 g2⟩
theorem tI {s:List Nat}:∀ {L:List (List (List Nat))} {k:Nat},fI s L = some k -> (∃ l,L[k]? = some l /\ s ∈ l) /\ ∀ j l,j < k -> L[j]? = some l -> s ∉ l
 | [],_,h=>by cases h
 | m :: L,k,h=>by
  simp only [fI] at h
  cases hm:mem s m with
  | true=>
   rw [hm] at h
   injection h with h; subst h
   exact ⟨⟨m,rfl,pZ.1 hm⟩,fun j l hj=>by omega⟩
  | false=>
   rw [hm] at h
   have hne:s ∉ m:=fun g=>by rw [<- pZ,hm] at g; cases g
   cases hd:fI s L with
   | none=>rw [hd] at h; cases h
   | some k'=>
    rw [hd] at h
    injection h with h; subst h
    obtain ⟨⟨l,h1,h2⟩,h3⟩:=tI hd
    refine ⟨⟨l,by simpa using h1,h2⟩,fun j l hj hl=>?_⟩
    cases j with
    | zero=>simp at hl; subst hl; exact hne
    | succ j=>exact h3 j l (by omega) (by simpa using hl)
theorem An {s:List Nat}:∀ {L:List (List (List Nat))},fI s L = none -> ∀ l ∈ L,s ∉ l
 | [],_,l,hl=>by cases hl
 | m :: L,h,l,hl=>by
  simp only [fI] at h
  cases hm:mem s m with
  | true=>rw [hm] at h; cases h
  | false=>
   rw [hm] at h
   have hne:s ∉ m:=fun g=>by rw [<- pZ,hm] at g; cases g
   cases hd:fI s L with
   | some k'=>rw [hd] at h; cases h
   | none=>
    rcases mem_cons.1 hl with rfl | hl
    ·exact hne
    ·exact An hd l hl
def rY (es:List (V × V)) (f x:List Nat):Option Nat:=fI x (dI es es.length [f])
theorem kO {es:List (V × V)} (h:fC es) (hn:(es.map ks).Nodup) {f x:List Nat} {k:Nat}:rY es f x = some k ↔ k <= es.length /\ AL es f k x /\ ∀ j,j < k -> ¬ AL es f j x:=by
 obtain ⟨h1,h2,h3⟩:=vQ (es:=es) es.length [f]
 have get:∀ j,j <= es.length -> ∃ l,(dI es es.length [f])[j]? = some l:=fun j hj=>⟨_,List.getElem?_eq_getElem (by omega)⟩
 constructor
 ·intro hd
  obtain ⟨⟨l,g1,g2⟩,g3⟩:=tI hd
  have hk:k < es.length + 1:=by rw [<- h1]; exact (List.getElem?_eq_some_iff.1 g1).1
  refine ⟨by omega,(oD h hn f _ k l g1 x).1 g2,fun j hj hr=>?_⟩
  obtain ⟨l',hl'⟩:=get j (by omega)
  exact g3 j l' hj hl' ((oD h hn f _ j l' hl' x).2 hr)
 ·rintro ⟨hk,hr,hmin⟩
  obtain ⟨l,hl⟩:=get k hk
  cases hd:rY es f x with
  | none=>exact absurd ((oD h hn f _ k l hl x).2 hr) (An hd l (List.mem_of_getElem? hl))
  | some k'=>
   obtain ⟨⟨l',g1,g2⟩,g3⟩:=tI hd
   have hr':=(oD h hn f _ k' l' g1 x).1 g2
   rcases Nat.lt_trichotomy k k' with c | c | c
   ·exact absurd ((oD h hn f _ k l hl x).2 hr) (g3 k l c hl)
   ·rw [c]
   ·exact absurd hr' (hmin k' c)
def lZ (fe:List (V × V)):Prop:=∀ e ∈ fe,∃ (k:List Nat) (n:Nat),e = (.str k,.int .i64 (n:Int))
def bO:List (V × V) -> List Nat -> Option Nat
 | (.str k,.int _ n) :: r,x=>match seq k x with
  | true=>some n.toNat
  | false=>bO r x
 | _ :: r,x=>bO r x
 | [],_=>none
theorem lZ.tail {e:V × V} {es:List (V × V)} (h:lZ (e :: es)):lZ es:=fun x hx=>h x (mem_cons_of_mem _ hx)
theorem lZ.strs {fe:List (V × V)} (h:lZ fe):iL fe:=fun e he=>by obtain ⟨k,n,rfl⟩:=h e he; exact ⟨k,rfl⟩
theorem tF {x:List Nat}:∀ {fe:List (V × V)},lZ fe -> iX iE (.str x) fe = some (Option.map (fun n:Nat=>V.int .i64 (n:Int)) (bO fe x))
 | [],_=>rfl
 | e :: fe,h=>by
  obtain ⟨k,n,rfl⟩:=h e (mem_cons_self ..)
  have e:iE (.str x) (.str k) = some (seq k x):=by
   simp only [iE,seq_eq]
   exact congrArg some (decide_eq_decide.2 ⟨fun h=>h.symm,fun h=>h.symm⟩)
  simp only [iX,e,bO]
  cases seq k x with
  | true=>rfl
  | false=>exact tF h.tail
theorem JC {x:List Nat}:∀ {fe:List (V × V)},lZ fe -> ((bO fe x).isSome = true ↔ x ∈ fe.map ks)
 | [],_=>by simp [bO]
 | e :: fe,h=>by
  obtain ⟨k,n,rfl⟩:=h e (mem_cons_self ..)
  simp only [bO,map_cons,mem_cons]
  cases hs:seq k x with
  | true=>rw [kI] at hs; simp [hs,ks]
  | false=>
   rw [jO] at hs
   simp only
   rw [JC h.tail]
   simp only [ks]
   exact ⟨.inr,fun g=>g.resolve_left fun e=>hs e.symm⟩
theorem AZ {x:List Nat} {m:Nat}:∀ {fe:List (V × V)},lZ fe -> ∃ fe',jI iE (.str x) (.int .i64 (m:Int)) fe = some fe' /\ lZ fe' /\ (∀ y,bO fe' y = if y = x then some m else bO fe y) /\
  fe'.map ks = (if x ∈ fe.map ks then fe.map ks else fe.map ks ++ [x])
 | [],_=>⟨[(.str x,.int .i64 (m:Int))],rfl,fun e he=>by simp at he; subst he; exact ⟨x,m,rfl⟩,fun y=>by
   simp only [bO]
   cases hs:seq x y with
   | true=>rw [kI] at hs; simp [hs]
   | false=>rw [jO] at hs; simp [hs.symm],by simp [ks]⟩
 | e :: fe,h=>by
  obtain ⟨k,n,rfl⟩:=h e (mem_cons_self ..)
  have e:iE (.str x) (.str k) = some (seq k x):=by
   simp only [iE,seq_eq]
   exact congrArg some (decide_eq_decide.2 ⟨fun h=>h.symm,fun h=>h.symm⟩)
  cases hs:seq k x with
  | true=>
   rw [hs] at e
   rw [kI] at hs
   subst hs
   refine ⟨(.str k,.int .i64 (m:Int)) :: fe,by simp only [jI,e],fun e he=>?_,fun y=>?_,by simp [ks]⟩
   ·rcases mem_cons.1 he with rfl | he
    ·exact ⟨k,m,rfl⟩
    ·exact h.tail e he
   ·simp only [bO]
    cases hs:seq k y with
    | true=>rw [kI] at hs; simp [hs]
    | false=>rw [jO] at hs; simp [hs.symm]
  | false=>
   rw [hs] at e
   rw [jO] at hs
   obtain ⟨fe',h1,h2,h3,h4⟩:=AZ (x:=x) (m:=m) h.tail
   refine ⟨(.str k,.int .i64 (n:Int)) :: fe',by simp only [jI,e,h1],fun e he=>?_,fun y=>?_,?_⟩
   ·rcases mem_cons.1 he with rfl | he
    ·exact ⟨k,n,rfl⟩
    ·exact h2 e he
   ·simp only [bO]
    cases hk:seq k y with
    | true=>rw [kI] at hk; subst hk; simp [hs]
    | false=>simp only [h3]
   ·simp only [map_cons,h4,ks,mem_cons,hs.symm,false_or]
    split <;> simp
theorem kU:∀ {a b:List (List Nat)},a.Nodup -> (∀ x ∈ a,x ∈ b) -> a.length <= b.length
 | [],_,_,_=>by simp
 | x :: a,b,hn,hs=>by
  rw [nodup_cons] at hn
  have hx:x ∈ b:=hs x (mem_cons_self ..)
  have:=kU (a:=a) (b:=b.erase x) hn.2 fun y hy=>by
   have hne:y ≠ x:=fun e=>hn.1 (by rw [<- e]; exact hy)
   exact (List.mem_erase_of_ne hne).2 (hs y (mem_cons_of_mem _ hy))
  rw [List.length_erase_of_mem hx] at this
  have hb:0 < b.length:=List.length_pos_of_mem hx
  simp only [length_cons]
  omega
structure EY (es:List (V × V)) (f:List Nat) (fe:List (V × V)):Prop where
 ok:lZ fe
 zero:bO fe f = some 0
 rch:∀ x k,bO fe x = some k -> AL es f k x
 bound:∀ x k,bO fe x = some k -> k + 1 <= fe.length
 nodup:(fe.map ks).Nodup
 keys:∀ k ∈ fe.map ks,k ∈ f :: es.map ks
theorem EY.len {es fe:List (V × V)} {f:List Nat} (h:EY es f fe):fe.length <= es.length + 1:=by
 have:=kU h.nodup h.keys
 simpa using this
theorem EY.lt {es fe:List (V × V)} {f:List Nat} (h:EY es f fe) {x:List Nat} {k:Nat} (hx:bO fe x = some k):k <= es.length:=by
 have:=h.bound x k hx
 have:=h.len
 omega
def Kb (es:List (V × V)) (f:List Nat) (fe:List (V × V)):Nat:=((f :: es.map ks).map fun x=>(bO fe x).getD (es.length + 2)).sum
theorem LF {g h:List Nat -> Nat}:∀ {l:List (List Nat)},(∀ x,g x <= h x) -> (∃ x ∈ l,g x < h x) -> (l.map g).sum < (l.map h).sum
 | [],_,⟨_,hx,_⟩=>by cases hx
 | a :: l,hle,⟨x,hx,hlt⟩=>by
  have rest:∀ l:List (List Nat),(l.map g).sum <= (l.map h).sum:=by
   intro l
   induction l with
   | nil=>simp
   | cons b l ih=>have:=hle b; simp only [map_cons,List.sum_cons]; omega
  simp only [map_cons,List.sum_cons]
  rcases mem_cons.1 hx with rfl | hx
  ·have:=rest l; omega
  ·have:=LF hle ⟨x,hx,hlt⟩
   have:=hle a
   omega
theorem EY.Ul {es fe:List (V × V)} {f name nx:List Nat} (h:EY es f fe) (hn:nx ∈ bA es name) (hk:name ∈ es.map ks) {d:Nat} (hd:bO fe nx = some d) (hw:∀ w,bO fe name = some w -> d + 1 < w)
  {fe':List (V × V)} (hp:jI iE (.str name) (.int .i64 ((d + 1:Nat):Int)) fe = some fe'):EY es f fe' /\ Kb es f fe' < Kb es f fe:=by
 obtain ⟨fe2,h1,h2,h3,h4⟩:=AZ (x:=name) (m:=d + 1) h.ok
 rw [hp] at h1
 injection h1 with h1; subst h1
 have hnf:name ≠ f:=fun e=>by
  subst e
  have:=hw 0 h.zero
  omega
 have hb:=h.bound nx d hd
 have hlen:fe'.length = if name ∈ fe.map ks then fe.length else fe.length + 1:=by
  have:=congrArg List.length h4
  rw [length_map] at this
  rw [this]
  split <;> simp
 have hle:fe.length <= fe'.length:=by rw [hlen]; split <;> omega
 refine ⟨⟨h2,by rw [h3,if_neg hnf.symm]; exact h.zero,fun x k hx=>?_,fun x k hx=>?_,?_,?_⟩,?_⟩
 ·rw [h3] at hx
  split at hx
  ·rename_i e
   injection hx with hx; subst hx e
   exact .succ hn (h.rch nx d hd)
  ·exact h.rch x k hx
 ·rw [h3] at hx
  split at hx
  ·rename_i e
   injection hx with hx; subst hx e
   rw [hlen]
   split
   ·rename_i hm
    obtain ⟨w,hw'⟩:=Option.isSome_iff_exists.1 ((JC h.ok).2 hm)
    have:=hw w hw'
    have:=h.bound _ w hw'
    omega
   ·omega
  ·have:=h.bound x k hx
   omega
 ·rw [h4]
  split
  ·exact h.nodup
  ·rename_i hm
   rw [nodup_append]
   refine ⟨h.nodup,by simp,fun a ha b hb e=>?_⟩
   simp only [mem_singleton] at hb
   subst hb e
   exact hm ha
 ·rw [h4]
  split
  ·exact h.keys
  ·intro k hk'
   rcases List.mem_append.1 hk' with hk' | hk'
   ·exact h.keys k hk'
   ·simp only [mem_singleton] at hk'
    subst hk'
    exact mem_cons_of_mem _ hk
 ·unfold Kb
  have hl:=h.len
  refine LF (fun x=>?_) ⟨name,mem_cons_of_mem _ hk,?_⟩
  ·rw [h3]
   split
   ·rename_i e
    subst e
    simp only [Option.getD_some]
    cases hx:bO fe x with
    | none=>simp only [Option.getD_none]; omega
    | some w=>have:=hw w hx; simp only [Option.getD_some]; omega
   ·exact Nat.le_refl _
  ·rw [h3,if_pos rfl]
   simp only [Option.getD_some]
   cases hx:bO fe name with
   | none=>simp only [Option.getD_none]; omega
   | some w=>have:=hw w hx; simp only [Option.getD_some]; omega
def uE (fe:List (V × V)) (x nx:List Nat):Prop:=∀ d,bO fe nx = some d -> ∃ w,bO fe x = some w /\ w <= d + 1
theorem EY.dist {es fe:List (V × V)} {f:List Nat} (hb:fC es) (hn:(es.map ks).Nodup) (h:EY es f fe) (hc:∀ x nx,nx ∈ bA es x -> uE fe x nx) (x:List Nat):rY es f x = bO fe x:=by
 have reach:∀ k x,AL es f k x -> ∃ w,bO fe x = some w /\ w <= k:=by
  intro k x hr
  induction hr with
  | zero=>exact ⟨0,h.zero,Nat.le_refl _⟩
  | succ g _ ih=>
   obtain ⟨w,h1,h2⟩:=ih
   obtain ⟨w',h3,h4⟩:=hc _ _ g w h1
   exact ⟨w',h3,by omega⟩
 cases hx:bO fe x with
 | some w=>
  rw [kO hb hn]
  refine ⟨h.lt hx,h.rch x w hx,fun j hj hr=>?_⟩
  obtain ⟨w',h1,h2⟩:=reach j x hr
  rw [hx] at h1
  injection h1 with h1
  omega
 | none=>
  cases hd:rY es f x with
  | none=>rfl
  | some k=>
   obtain ⟨_,hr,_⟩:=(kO hb hn).1 hd
   obtain ⟨w,h1,_⟩:=reach k x hr
   rw [hx] at h1
   cases h1
theorem KU {es:List (V × V)} (hb:fC es) (hn:(es.map ks).Nodup) {f x:List Nat} {k:Nat} (h:rY es f x = some (k + 1)):∃ nx ∈ bA es x,rY es f nx = some k:=by
 obtain ⟨h1,h2,h3⟩:=(kO hb hn).1 h
 cases h2 with | succ g hr=>
 refine ⟨_,g,(kO hb hn).2 ⟨by omega,hr,fun j hj hj'=>?_⟩⟩
 exact h3 (j + 1) (by omega) (.succ g hj')
def eC (d:List Nat -> Option Nat) (acc:Option Nat) (a:List Nat):Option Nat:=
 match d a,acc with
 | none,acc=>acc
 | some k,none=>some k
 | some k,some b=>if k < b then some k else some b
def comb:Option Nat -> Option Nat -> Option Nat
 | none,e=>e
 | some b,none=>some b
 | some b,some e=>if e < b then some e else some b
theorem DL (L:List (List (List Nat))):∀ (l:List (List Nat)) (acc:Option Nat),l.foldl (eC fun x=>fI x L) acc = comb acc (iC L l)
 | [],acc=>by cases acc <;> rfl
 | a :: l,acc=>by
  simp only [List.foldl_cons,DL L l,iC]
  cases hd:fI a L with
  | none=>simp only [eC,hd]
  | some d=>
   cases hb:iC L l with
   | none=>
    cases acc with
    | none=>simp [eC,hd,comb]
    | some b=>by_cases h:d < b <;> simp [eC,hd,comb,h]
   | some e=>
    cases hbl:Nat.blt e d with
    | true=>
     have h2:e < d:=by rw [<- Nat.blt_eq]; exact hbl
     cases acc with
     | none=>simp [eC,hd,comb,h2,hbl]
     | some b=>by_cases h1:d < b <;> by_cases h3:e < b <;> simp [eC,hd,comb,h1,h2,h3,hbl] <;> omega
    | false=>
     have h2:¬ e < d:=fun h=>by rw [<- Nat.blt_eq,hbl] at h; cases h
     cases acc with
     | none=>simp [eC,hd,comb,h2,hbl]
     | some b=>by_cases h1:d < b <;> by_cases h3:e < b <;> simp [eC,hd,comb,h1,h2,h3,hbl] <;> omega
theorem xU (L:List (List (List Nat))):∀ (l:List (List Nat)) (b:Nat),iC L l = some b -> ∃ a ∈ l,fI a L = some b
 | [],b,h=>by cases h
 | a :: l,b,h=>by
  simp only [iC] at h
  cases hd:fI a L with
  | none=>
   rw [hd] at h
   obtain ⟨x,h1,h2⟩:=xU L l b h
   exact ⟨x,mem_cons_of_mem _ h1,h2⟩
  | some d=>
   rw [hd] at h
   cases hb:iC L l with
   | none=>rw [hb] at h; injection h with h; subst h; exact ⟨a,mem_cons_self ..,hd⟩
   | some e=>
    rw [hb] at h
    simp only at h
    split at h
    ·injection h with h; subst h
     obtain ⟨x,h1,h2⟩:=xU L l e hb
     exact ⟨x,mem_cons_of_mem _ h1,h2⟩
    ·injection h with h; subst h; exact ⟨a,mem_cons_self ..,hd⟩
theorem zU (L:List (List (List Nat))) (b:Nat):∀ (l:List (List Nat)),(∃ a ∈ l,fI a L = some b) -> ∃ (i:Nat) (a:List Nat),l[i]? = some a /\ stepOf L b l = some a /\ fI a L = some b /\ ∀ j x,j < i -> l[j]? = some x -> fI x L ≠ some b
 | [],⟨_,h,_⟩=>by cases h
 | a :: l,⟨x,hx,hd⟩=>by
  by_cases ha:fI a L = some b
  ·exact ⟨0,a,rfl,by simp only [stepOf,ha,Nat.beq_refl],ha,fun j x hj=>by omega⟩
  ·have hx':x ∈ l:=by
    rcases mem_cons.1 hx with rfl | hx
    ·exact absurd hd ha
    ·exact hx
   obtain ⟨i,y,h1,h2,h3,h4⟩:=zU L b l ⟨x,hx',hd⟩
   refine ⟨i + 1,y,by simpa using h1,?_,h3,fun j z hj hz=>?_⟩
   ·simp only [stepOf]
    cases hda:fI a L with
    | none=>exact h2
    | some d=>
     have hne:d ≠ b:=fun e=>ha (by rw [hda,e])
     cases hbq:Nat.beq d b with
     | true=>exact absurd (Nat.eq_of_beq_eq_true hbq) hne
     | false=>simp only [hbq]; exact h2
   ·cases j with
    | zero=>simp at hz; subst hz; exact ha
    | succ j=>exact h4 j z (by omega) (by simpa using hz)
end Go.Ax
end
section
namespace Go.Ax
open Go Go.Proofs
section
def AO:List Nat -> Code -> Code
 | [],c=>c
 | 0 :: p,.seq a _=>AO p a
 | 1 :: p,.seq _ b=>AO p b
 | 2 :: p,.block _ c=>AO p c
 | 2 :: p,.loop c=>AO p c
 | _,c=>c
noncomputable def bk (p:List Nat):Code:=AO p (aA Tryz.f148).code
section
variable {E:Env}
theorem QG {d:Nat} (h:d <= 4000000000000000000):wr .i64 (Im (d:Int) 1) = ((d + 1:Nat):Int):=by
 rw [EW,zS]
 have e:(2:Int) ^ IntKind.i64.bits = 18446744073709551616:=by decide
 have e2:(2:Int) ^ (IntKind.i64.bits - 1) = 9223372036854775808:=by decide
 have e3:IntKind.i64.signed = true:=rfl
 unfold IntKind.wrap
 simp only [e,e2,e3,Bool.true_and,decide_eq_true_eq]
 split <;> omega
theorem Cj (h196:E.ty 203 = some { kd:=.map 9 3,size:=1,bytes:=8,zero:=.bS }) (h111:E.ty 96 = some { kd:=.map 9 28,size:=1,bytes:=8,zero:=.bS }) (h44:E.ty 28 = some { kd:=.sl 9,size:=1,bytes:=24,zero:=.aC })
  (h9:E.ty 9 = some { kd:=.str,size:=1,bytes:=16,zero:=.str [] }) (h3:E.ty 3 = some { kd:=.int .i64,size:=1,bytes:=8,zero:=.int .i64 0 }) (h4:E.ty 4 = some { kd:=.bool,size:=1,bytes:=1,zero:=.bool false })
  (n:Nat) (fr:Fr) (hn:fr.n = 119) {lv:V} {l:List (List Nat)} (hl:SV lv l) {i:Nat} (g34:fr.get 34 = some lv) (g35:fr.get 35 = some (.int .i64 (l.length:Int))) (g36:fr.get 36 = some (.int .i64 (i:Int))) {name:List Nat} (g7:fr.get 7 = some (.str name)) {tb:Bool} (g6:fr.get 6 = some (.bool tb)) (g5:fr.get 5 = some (.ref 1 0))
  {fe:List (V × V)} (hok:lZ fe) (hsm:∀ x k,bO fe x = some k -> k <= 1000000) (hlen:l.length <= 4000000000000000000) {its:Sg} {Q:X -> Fr -> Sg -> Prop}
  (q0:i = l.length -> ∀ fr':Fr,fr'.n = 119 -> (∀ t,t ≠ 37 -> fr'.get t = fr.get t) -> Q (.exit 4) fr' (.map fe :: .cells 203 [.mp 0] true :: its))
  (q1:∀ nx,l[i]? = some nx -> ((∀ d,bO fe nx = some d -> ∃ w,bO fe name = some w /\ w <= d + 1) -> ∀ fr':Fr,fr'.n = 119 -> fr'.get 36 = some (.int .i64 ((i + 1:Nat):Int)) -> (∀ t,t < 10 \/ t = 28 \/ t = 34 \/ t = 35 -> fr'.get t = fr.get t) -> Q .normal fr' (.map fe :: .cells 203 [.mp 0] true :: its)) /\
   ∀ d,bO fe nx = some d -> (∀ w,bO fe name = some w -> d + 1 < w) -> ∀ fe',jI iE (.str name) (.int .i64 ((d + 1:Nat):Int)) fe = some fe' -> ∀ fr':Fr,fr'.n = 119 -> fr'.get 36 = some (.int .i64 ((i + 1:Nat):Int)) -> fr'.get 6 = some (.bool true) -> (∀ t,t < 10 /\ t ≠ 6 \/ t = 28 \/ t = 34 \/ t = 35 -> fr'.get t = fr.get t) -> Q .normal fr' (.map fe' :: .cells 203 [.mp 0] true :: its))
  (hi:i <= l.length):eF E (n + 20) (bk [1,1,0,1,2,2,1,2,1,1,2,2,1,1,2,1,1,2,2]) fr (.map fe :: .cells 203 [.mp 0] true :: its) Q:=by
 simp only [bk,AO,aA,Tryz.f148,Option.getD_some]
 by_cases hil:i = l.length
 ·have hlt:decide ((i:Int) < (l.length:Int)) = false:=decide_eq_false (by omega)
  simp only [eO,fD,cJ,eP,cN,cR,cG,dJ,bW,yielded,aP,ofValue,bC,if_true,eG,bJ,kC,comp,aO,cI,dH,dK,gO,eI,mZ,jF,bT,Option.map_some,Option.bind_some,Fr.aD,hn,getElem?_cons_zero,getElem?_cons_succ,getElem?_toArray,reduceEqDiff,reduceLT,and_true,if_false,h196,h9,h3,loadAt,isAgg,lookup,dM,entriesOf,bV h9,bin,arith,unop,mapUpdate,eR,V.aW,Bool.false_eq_true,iJ,beq_iff_eq,g35,g36,hlt]
  refine q0 hil _ (by simp only [Fr.aV,hn]) fun t ht=>by simp only [Fr.aD,ht,false_and,if_false]
 ·obtain ⟨nx,hnx⟩:∃ nx,l[i]? = some nx:=⟨_,List.getElem?_eq_getElem (by omega)⟩
  have hlt:decide ((i:Int) < (l.length:Int)) = true:=decide_eq_true (by omega)
  obtain ⟨g,full,rfl⟩:∃ g full,lv = .bQ g (l.map fun s=>[V.str s]) full:=by
   rcases hl with ⟨_,rfl⟩ | h
   ·simp at hnx
   ·exact h
  have hrow:(l.map fun s=>[V.str s])[i]? = some [V.str nx]:=by simp [hnx]
  have hidx:indexAddr E 28 (.bQ g (l.map fun s=>[V.str s]) full) (.int .i64 (i:Int)) = some (.dB g [.str nx]):=by
   simp only [indexAddr,h44,h9]
   rw [if_neg (by omega),Int.toNat_natCast,hrow]
   simp
  obtain ⟨q1a,q1b⟩:=q1 nx hnx
  have hadd:wr .i64 (Im (i:Int) 1) = ((i + 1:Nat):Int):=QG (by omega)
  have fnx:=tF (x:=nx) hok
  have fnm:=tF (x:=name) hok
  cases hd:bO fe nx with
  | none=>
   rw [hd] at fnx
   cases hw:bO fe name with
   | none=>
    rw [hw] at fnm
    simp only [eO,fD,cJ,eP,cN,cR,cG,dJ,bW,yielded,aP,ofValue,bC,if_true,eG,bJ,kC,comp,aO,cI,dH,dK,gO,eI,mZ,jF,bT,Option.map_some,Option.bind_some,Option.map_none,Fr.aD,Fr.aV,hn,getElem?_cons_zero,getElem?_cons_succ,getElem?_toArray,reduceEqDiff,reduceLT,and_true,if_false,reduceCtorEq,h196,h9,h3,loadAt,isAgg,lookup,dM,entriesOf,bV h9,bin,arith,unop,mapUpdate,eR,V.aW,Bool.not_true,Bool.false_eq_true,Option.isSome_none,Option.some.injEq,List.head?_cons,iJ,beq_iff_eq,g34,g35,g36,g5,g7,hlt,hidx,fnx,fnm,hadd]
    refine q1a (fun d h=>by rw [hd] at h; cases h) _ ?_ ?_ ?_
    ·simp only [Fr.aV,hn]
    ·simp only [Fr.aD,Fr.aV,hn,reduceLT,and_true,if_true]
    ·intro t ht
     have:t < 10 \/ t = 28 \/ t = 34 \/ t = 35:=ht
     simp only [Fr.aD]
     repeat (rw [if_neg (by omega)])
   | some w=>
    rw [hw] at fnm
    simp only [eO,fD,cJ,eP,cN,cR,cG,dJ,bW,yielded,aP,ofValue,bC,if_true,eG,bJ,kC,comp,aO,cI,dH,dK,gO,eI,mZ,jF,bT,Option.map_some,Option.bind_some,Option.map_none,Fr.aD,Fr.aV,hn,getElem?_cons_zero,getElem?_cons_succ,getElem?_toArray,reduceEqDiff,reduceLT,and_true,if_false,reduceCtorEq,h196,h9,h3,loadAt,isAgg,lookup,dM,entriesOf,bV h9,bin,arith,unop,mapUpdate,eR,V.aW,Bool.not_true,Bool.false_eq_true,Option.isSome_some,Option.isSome_none,Option.some.injEq,List.head?_cons,iJ,beq_iff_eq,g34,g35,g36,g5,g7,hlt,hidx,fnx,fnm,hadd]
    refine q1a (fun d h=>by rw [hd] at h; cases h) _ ?_ ?_ ?_
    ·simp only [Fr.aV,hn]
    ·simp only [Fr.aD,Fr.aV,hn,reduceLT,and_true,if_true]
    ·intro t ht
     simp only [Fr.aD]
     repeat (rw [if_neg (by omega)])
  | some d=>
   rw [hd] at fnx
   have hd1:=hsm nx d hd
   have hdd:wr .i64 (Im (d:Int) 1) = ((d + 1:Nat):Int):=QG (by omega)
   cases hw:bO fe name with
   | none=>
    rw [hw] at fnm
    obtain ⟨fe',k1,k2,k3,_⟩:=AZ (x:=name) (m:=d + 1) hok
    simp only [eO,fD,cJ,eP,cN,cR,cG,dJ,bW,yielded,aP,ofValue,bC,if_true,eG,bJ,kC,comp,aO,cI,dH,dK,gO,eI,mZ,jF,bT,Option.map_some,Option.bind_some,Option.map_none,Fr.aD,Fr.aV,hn,getElem?_cons_zero,getElem?_cons_succ,getElem?_toArray,reduceEqDiff,reduceLT,and_true,if_false,reduceCtorEq,h196,h9,h3,loadAt,isAgg,lookup,dM,entriesOf,bV h9,bin,arith,unop,mapUpdate,eR,V.aW,Bool.not_true,Bool.not_false,Bool.or_self,Bool.false_eq_true,Option.isSome_some,Option.isSome_none,Option.some.injEq,List.set_cons_zero,List.head?_cons,iJ,beq_iff_eq,g34,g35,g36,g5,g7,hlt,hidx,fnx,fnm,hadd,hdd,k1]
    refine q1b d hd (fun w h=>by rw [hw] at h; cases h) fe' k1 _ ?_ ?_ ?_ ?_
    ·simp only [Fr.aV,hn]
    ·simp only [Fr.aD,Fr.aV,hn,reduceLT,and_true,if_true]
    ·simp only [Fr.aD,Fr.aV,hn,reduceEqDiff,reduceLT,and_true,if_true,if_false]
    ·intro t ht
     simp only [Fr.aD]
     repeat (rw [if_neg (by omega)])
   | some w=>
    rw [hw] at fnm
    by_cases hlt2:d + 1 < w
    ·obtain ⟨fe',k1,k2,k3,_⟩:=AZ (x:=name) (m:=d + 1) hok
     have hcmp:decide (((d + 1:Nat):Int) < (w:Int)) = true:=decide_eq_true (by omega)
     simp only [eO,fD,cJ,eP,cN,cR,cG,dJ,bW,yielded,aP,ofValue,bC,if_true,eG,bJ,kC,comp,aO,cI,dH,dK,gO,eI,mZ,jF,bT,Option.map_some,Option.bind_some,Fr.aD,Fr.aV,hn,getElem?_cons_zero,getElem?_cons_succ,getElem?_toArray,reduceEqDiff,reduceLT,and_true,if_false,h196,h9,h3,loadAt,isAgg,lookup,dM,entriesOf,bV h9,bin,arith,unop,mapUpdate,eR,V.aW,Bool.not_true,Bool.or_self,Bool.false_eq_true,Option.isSome_some,List.set_cons_zero,List.head?_cons,iJ,beq_iff_eq,g34,g35,g36,g5,g7,hlt,hidx,fnx,fnm,hadd,hdd,k1,hcmp]
     refine q1b d hd (fun w' h=>by rw [hw] at h; injection h with h; omega) fe' k1 _ ?_ ?_ ?_ ?_
     ·simp only [Fr.aV,hn]
     ·simp only [Fr.aD,Fr.aV,hn,reduceLT,and_true,if_true]
     ·simp only [Fr.aD,Fr.aV,hn,reduceEqDiff,reduceLT,and_true,if_true,if_false]
     ·intro t ht
      simp only [Fr.aD]
      repeat (rw [if_neg (by omega)])
    ·have hcmp:decide (((d + 1:Nat):Int) < (w:Int)) = false:=decide_eq_false (by omega)
     simp only [eO,fD,cJ,eP,cN,cR,cG,dJ,bW,yielded,aP,ofValue,bC,if_true,eG,bJ,kC,comp,aO,cI,dH,dK,gO,eI,mZ,jF,bT,Option.map_some,Option.bind_some,Fr.aD,Fr.aV,hn,getElem?_cons_zero,getElem?_cons_succ,getElem?_toArray,reduceEqDiff,reduceLT,and_true,if_false,h196,h9,h3,loadAt,isAgg,lookup,dM,entriesOf,bV h9,bin,arith,unop,mapUpdate,eR,V.aW,Bool.not_true,Bool.false_eq_true,Option.isSome_some,List.head?_cons,iJ,beq_iff_eq,g34,g35,g36,g5,g7,hlt,hidx,fnx,fnm,hadd,hdd,hcmp]
     refine q1a (fun d' h=>by rw [hd] at h; injection h with h; exact ⟨w,hw,by omega⟩) _ ?_ ?_ ?_
     ·simp only [Fr.aV,hn]
     ·simp only [Fr.aD,Fr.aV,hn,reduceLT,and_true,if_true]
     ·intro t ht
      simp only [Fr.aD]
      repeat (rw [if_neg (by omega)])
theorem KT (h196:E.ty 203 = some { kd:=.map 9 3,size:=1,bytes:=8,zero:=.bS }) (h111:E.ty 96 = some { kd:=.map 9 28,size:=1,bytes:=8,zero:=.bS }) (h44:E.ty 28 = some { kd:=.sl 9,size:=1,bytes:=24,zero:=.aC })
  (h9:E.ty 9 = some { kd:=.str,size:=1,bytes:=16,zero:=.str [] }) (h3:E.ty 3 = some { kd:=.int .i64,size:=1,bytes:=8,zero:=.int .i64 0 }) (h4:E.ty 4 = some { kd:=.bool,size:=1,bytes:=1,zero:=.bool false })
  {es:List (V × V)} {f:List Nat} (hes:es.length <= 1000000) (hbk:fC es) (hnd:(es.map ks).Nodup) {name:List Nat} {lv:V} (hmem:(V.str name,lv) ∈ es) {l:List (List Nat)} (hlv:SV lv l) (hln:bA es name = l) (hlen:l.length <= 4000000000000000000) {its:Sg} {fe0:List (V × V)} {tb0:Bool} (N:Nat) :
  ∀ (m i:Nat) (fr:Fr) (fe:List (V × V)) (tb:Bool),m + i = l.length -> EY es f fe -> fr.n = 119 -> fr.get 34 = some lv -> fr.get 35 = some (.int .i64 (l.length:Int)) -> fr.get 36 = some (.int .i64 (i:Int)) -> fr.get 7 = some (.str name) -> fr.get 6 = some (.bool tb) -> fr.get 5 = some (.ref 1 0) ->
   ((tb = tb0 /\ fe = fe0 /\ ∀ j nx,j < i -> l[j]? = some nx -> uE fe0 name nx) \/ (tb = true /\ Kb es f fe < Kb es f fe0)) ->
   eF E (N + m + 21) (.loop (bk [1,1,0,1,2,2,1,2,1,1,2,2,1,1,2,1,1,2,2])) fr (.map fe :: .cells 203 [.mp 0] true :: its) fun x fr' σ'=>x = .exit 4 /\ ∃ fe' tb',EY es f fe' /\ σ' = .map fe' :: .cells 203 [.mp 0] true :: its /\ fr'.n = 119 /\ fr'.get 6 = some (.bool tb') /\ (∀ t,t < 10 /\ t ≠ 6 \/ t = 28 -> fr'.get t = fr.get t) /\
    ((tb' = tb0 /\ fe' = fe0 /\ ∀ nx ∈ l,uE fe0 name nx) \/ (tb' = true /\ Kb es f fe' < Kb es f fe0)):=by
 intro m
 induction m with
 | zero=>
  intro i fr fe tb hi hF hn g34 g35 g36 g7 g6 g5 hacc
  show eF E ((N + 20) + 1) _ _ _ _
  rw [eF]
  refine Cj h196 h111 h44 h9 h3 h4 N fr hn hlv g34 g35 g36 g7 g6 g5 hF.ok (fun x k hx=>by have:=hF.lt hx; omega) hlen ?_ (fun nx hnx=>?_) (by omega)
  ·intro _ fr' k1 k2
   refine ⟨rfl,fe,tb,hF,rfl,k1,by rw [k2 6 (by omega)]; exact g6,fun t ht=>k2 t (by omega),?_⟩
   rcases hacc with ⟨a1,a2,a3⟩ | h
   ·refine .inl ⟨a1,a2,fun nx hnx=>?_⟩
    obtain ⟨j,hj⟩:=List.getElem?_of_mem hnx
    exact a3 j nx (by have:=(List.getElem?_eq_some_iff.1 hj).1; omega) hj
   ·exact .inr h
  ·have:=(List.getElem?_eq_some_iff.1 hnx).1
   omega
 | succ m ih=>
  intro i fr fe tb hi hF hn g34 g35 g36 g7 g6 g5 hacc
  show eF E ((N + m + 1 + 20) + 1) _ _ _ _
  rw [eF]
  refine Cj h196 h111 h44 h9 h3 h4 (N + m + 1) fr hn hlv g34 g35 g36 g7 g6 g5 hF.ok (fun x k hx=>by have:=hF.lt hx; omega) hlen (fun h=>by omega) (fun nx hnx=>⟨?_,?_⟩) (by omega)
  ·intro hc fr' k1 k2 k3
   have:=ih (i + 1) fr' fe tb (by omega) hF k1 (by rw [k3 34 (by omega)]; exact g34) (by rw [k3 35 (by omega)]; exact g35) k2 (by rw [k3 7 (by omega)]; exact g7) (by rw [k3 6 (by omega)]; exact g6) (by rw [k3 5 (by omega)]; exact g5) (by
    rcases hacc with ⟨a1,a2,a3⟩ | h
    ·refine .inl ⟨a1,a2,fun j nx' hj hnx'=>?_⟩
     by_cases e:j = i
     ·subst e
      rw [hnx] at hnx'
      injection hnx' with hnx'; subst hnx'
      intro d hd
      rw [<- a2] at hd ⊢
      exact hc d hd
     ·exact a3 j nx' (by omega) hnx'
    ·exact .inr h)
   refine d_ _ this ?_
   rintro x fr2 σ2 ⟨rfl,fe',tb',b1,b2,b3,b4,b5,b6⟩
   exact ⟨rfl,fe',tb',b1,b2,b3,b4,fun t ht=>(b5 t ht).trans (k3 t (by omega)),b6⟩
  ·intro d hd hw fe' hp fr' k1 k2 k3 k4
   have hnx':nx ∈ bA es name:=by rw [hln]; exact List.mem_of_getElem? hnx
   obtain ⟨c1,c2⟩:=hF.Ul hnx' (mem_map.2 ⟨_,hmem,rfl⟩) hd hw hp
   have:=ih (i + 1) fr' fe' true (by omega) c1 k1 (by rw [k4 34 (by omega)]; exact g34) (by rw [k4 35 (by omega)]; exact g35) k2 (by rw [k4 7 (by omega)]; exact g7) k3 (by rw [k4 5 (by omega)]; exact g5) (by
    refine .inr ⟨rfl,?_⟩
    rcases hacc with ⟨_,a2,_⟩ | ⟨_,h⟩
    ·rw [<- a2]; exact c2
    ·omega)
   refine d_ _ this ?_
   rintro x fr2 σ2 ⟨rfl,fe2,tb',b1,b2,b3,b4,b5,b6⟩
   exact ⟨rfl,fe2,tb',b1,b2,b3,b4,fun t ht=>(b5 t ht).trans (k4 t (by omega)),b6⟩
theorem Al (h196:E.ty 203 = some { kd:=.map 9 3,size:=1,bytes:=8,zero:=.bS }) (h111:E.ty 96 = some { kd:=.map 9 28,size:=1,bytes:=8,zero:=.bS }) (h44:E.ty 28 = some { kd:=.sl 9,size:=1,bytes:=24,zero:=.aC })
  (h9:E.ty 9 = some { kd:=.str,size:=1,bytes:=16,zero:=.str [] }) (h3:E.ty 3 = some { kd:=.int .i64,size:=1,bytes:=8,zero:=.int .i64 0 }) (h4:E.ty 4 = some { kd:=.bool,size:=1,bytes:=1,zero:=.bool false })
  (n:Nat) (fr:Fr) (hn:fr.n = 119) {k:Nat} (g28:fr.get 28 = some (.ref (k + 2) 0)) {a b:O} {its:Sg} {left:List (V × V)} {cur:Option (V × V)} (hk:its[k]? = some (.qY left cur)) {Q:X -> Fr -> Sg -> Prop} (hleft:∀ e ∈ left,(∃ s,e.1 = .str s) /\ ∃ l,SV e.2 l)
  (q0:left = [] -> ∀ fr':Fr,fr'.n = 119 -> (∀ t,t < 29 -> fr'.get t = fr.get t) -> Q (.exit 2) fr' (a :: b :: its))
  (q1:∀ p e z name l,left = p ++ e :: z -> e.1 = .str name -> SV e.2 l -> ∀ fr':Fr,fr'.n = 119 -> fr'.get 34 = some e.2 -> fr'.get 35 = some (.int .i64 (l.length:Int)) -> fr'.get 36 = some (.int .i64 ((0:Nat):Int)) -> fr'.get 7 = some (.str name) -> (∀ t,t < 7 \/ t = 28 -> fr'.get t = fr.get t) ->
   eF E (n + 20) (.block 4 (.loop (bk [1,1,0,1,2,2,1,2,1,1,2,2,1,1,2,1,1,2,2]))) fr' (a :: b :: its.set k (.qY (p ++ z) (some e))) fun x fr Z=>match x with
    | .exit id=>if id = 3 then Q .normal fr Z else Q (.exit id) fr Z
    | x=>Q x fr Z) :
  eF E (n + 25) (bk [1,1,0,1,2,2,1,2,1,1,2,2]) fr (a :: b :: its) Q:=by
 have hkl:=(List.getElem?_eq_some_iff.1 hk).1
 have hk2:(a :: b :: its)[k + 2]? = some (.qY left cur):=by simpa using hk
 have hset:∀ o,(a :: b :: its).set (k + 2) o = a :: b :: its.set k o:=fun o=>rfl
 have hget:∀ o,(a :: b :: its.set k o)[k + 2]? = some o:=fun o=>by simp [hkl]
 have e1:bk [1,1,0,1,2,2,1,2,1,1,2,2] = .seq (bk ([1,1,0,1,2,2,1,2,1,1,2,2] ++ [0])) (.seq (bk ([1,1,0,1,2,2,1,2,1,1,2,2] ++ [1,0])) (.block 3 (.seq (bk ([1,1,0,1,2,2,1,2,1,1,2,2] ++ [1,1,2,0])) (.seq (bk ([1,1,0,1,2,2,1,2,1,1,2,2] ++ [1,1,2,1,0])) (.block 4 (.loop (bk [1,1,0,1,2,2,1,2,1,1,2,2,1,1,2,1,1,2,2]))))))):=rfl
 rw [e1]
 generalize hB:Code.block 3 _ = B3
 simp only [bk,AO,List.cons_append,List.nil_append,aA,Tryz.f148,Option.getD_some]
 simp only [eO,fD,cJ,eP,cR,cG,dJ,bW,Dl,aP,g28,hk2,if_true,true_and,eG,bJ,kC,comp,cI,Option.map_some,Fr.aD,Fr.aV,hn,getElem?_cons_zero,reduceEqDiff,reduceLT,and_true,if_false,hset]
 refine ⟨?_,?_⟩
 ·intro hl
  refine q0 hl _ (by simp only [Fr.aV,hn]) fun t ht=>?_
  simp only [Fr.aD]
  repeat (rw [if_neg (by omega)])
 ·intro p e z hl
  obtain ⟨⟨name,hname⟩,l,hsv⟩:=hleft e (by rw [hl]; simp)
  have hln:lenOf E (a :: b :: its.set k (.qY (p ++ z) (some e))) 28 e.2 = some l.length:=by
   rcases hsv with ⟨h1,h2⟩ | ⟨g,full,h1⟩
   ·rw [h1,h2]; simp only [lenOf,h44,length_nil]
   ·rw [h1]; simp only [lenOf,h44,length_map]
  rw [<- hB]
  clear hB
  generalize hrest:Code.block 4 (.loop (bk [1,1,0,1,2,2,1,2,1,1,2,2,1,1,2,1,1,2,2])) = rest at q1 ⊢
  simp only [bk,AO,List.cons_append,List.nil_append,aA,Tryz.f148,Option.getD_some]
  simp only [cJ,cN,cR,cG,dJ,bW,aP,eK,ofValue,bC,if_true,eG,bJ,kC,comp,aO,cI,yP,eA,builtin,Option.map_some,Fr.aD,Fr.aV,hn,getElem?_cons_zero,getElem?_cons_succ,getElem?_toArray,reduceEqDiff,reduceLT,and_true,if_false,h44,h9,Option.isSome_some,V.cells,setCells,g28,yP,hget,hln]
  refine q1 p e z name l hl hname hsv _ ?_ ?_ ?_ ?_ ?_ ?_
  ·simp only [Fr.aV,hn]
  ·simp only [Fr.aD,Fr.aV,hn,reduceEqDiff,reduceLT,and_true,if_true,if_false]
  ·simp only [Fr.aD,Fr.aV,hn,reduceEqDiff,reduceLT,and_true,if_true,if_false]
  ·simp only [Fr.aD,Fr.aV,hn,reduceEqDiff,reduceLT,and_true,if_true,if_false]; rfl
  ·simp only [Fr.aD,Fr.aV,hn,reduceEqDiff,reduceLT,and_true,if_true,if_false,hname]
  ·intro t ht
   simp only [Fr.aD]
   repeat (rw [if_neg (by omega)])
theorem EJ (h196:E.ty 203 = some { kd:=.map 9 3,size:=1,bytes:=8,zero:=.bS }) (h111:E.ty 96 = some { kd:=.map 9 28,size:=1,bytes:=8,zero:=.bS }) (h44:E.ty 28 = some { kd:=.sl 9,size:=1,bytes:=24,zero:=.aC })
  (h9:E.ty 9 = some { kd:=.str,size:=1,bytes:=16,zero:=.str [] }) (h3:E.ty 3 = some { kd:=.int .i64,size:=1,bytes:=8,zero:=.int .i64 0 }) (h4:E.ty 4 = some { kd:=.bool,size:=1,bytes:=1,zero:=.bool false })
  {es:List (V × V)} {f:List Nat} (hes:es.length <= 1000000) (hbk:fC es) (hnd:(es.map ks).Nodup) {K:Nat} (hK:K <= 4000000000000000000) (hKl:∀ e ∈ es,(iA e.2).length <= K) {k:Nat} {fe0:List (V × V)} (N:Nat) :
  ∀ (m:Nat) (left p:List (V × V)) (cur:Option (V × V)) (its:Sg) (fr:Fr) (fe:List (V × V)) (tb:Bool),left.length = m -> (p ++ left).Perm es -> its[k]? = some (.qY left cur) -> EY es f fe -> fr.n = 119 -> fr.get 28 = some (.ref (k + 2) 0) -> fr.get 6 = some (.bool tb) -> fr.get 5 = some (.ref 1 0) ->
   ((tb = false /\ fe = fe0 /\ ∀ e ∈ p,∀ name,e.1 = .str name -> ∀ nx ∈ iA e.2,uE fe0 name nx) \/ (tb = true /\ Kb es f fe < Kb es f fe0)) ->
   eF E (N + K + m + 50) (.loop (bk [1,1,0,1,2,2,1,2,1,1,2,2])) fr (.map fe :: .cells 203 [.mp 0] true :: its) fun x fr' σ'=>x = .exit 2 /\ ∃ fe' tb' its',EY es f fe' /\ its'.length = its.length /\ σ' = .map fe' :: .cells 203 [.mp 0] true :: its' /\ fr'.n = 119 /\ fr'.get 6 = some (.bool tb') /\ (∀ t,t < 6 -> fr'.get t = fr.get t) /\
    ((tb' = false /\ fe' = fe0 /\ ∀ e ∈ es,∀ name,e.1 = .str name -> ∀ nx ∈ iA e.2,uE fe0 name nx) \/ (tb' = true /\ Kb es f fe' < Kb es f fe0)):=by
 intro m
 induction m with
 | zero=>
  intro left p cur its fr fe tb hl hp hk hF hn g28 g6 g5 hacc
  have:left = []:=List.length_eq_zero_iff.1 hl
  subst this
  show eF E ((N + K + 24) + 25 + 1) _ _ _ _
  rw [mM]
  refine Al h196 h111 h44 h9 h3 h4 (N + K + 24) fr hn g28 hk (fun e he=>by cases he) (fun _ fr' k1 k2=>?_) (fun p e z name l h=>by simp at h)
  refine ⟨rfl,fe,tb,its,hF,rfl,rfl,k1,by rw [k2 6 (by omega)]; exact g6,fun t ht=>k2 t (by omega),?_⟩
  rcases hacc with ⟨a1,a2,a3⟩ | h
  ·exact .inl ⟨a1,a2,fun e he=>a3 e (by have:=hp.mem_iff.2 he; simpa using this)⟩
  ·exact .inr h
 | succ m ih=>
  intro left p cur its fr fe tb hl hp hk hF hn g28 g6 g5 hacc
  show eF E ((N + K + m + 25) + 25 + 1) _ _ _ _
  rw [mM]
  have hmem:∀ e ∈ left,e ∈ es:=fun e he=>hp.mem_iff.1 (List.mem_append_right _ he)
  have hkl:=(List.getElem?_eq_some_iff.1 hk).1
  refine Al h196 h111 h44 h9 h3 h4 (N + K + m + 25) fr hn g28 hk (fun e he=>⟨(hbk e (hmem e he)).1,_,(hbk e (hmem e he)).2⟩) (fun h=>by rw [h] at hl; simp at hl) ?_
  intro pa e z name l hz hname hsv fr' k1 k2 k3 k4 k5 k6
  have hee:e ∈ es:=hmem e (by rw [hz]; simp)
  have hme:(V.str name,e.2) ∈ es:=by rw [<- hname]; exact hee
  have hlist:iA e.2 = l:=by
   rcases hsv with ⟨h1,h2⟩ | ⟨g,full,h1⟩
   ·rw [h1,h2]; rfl
   ·rw [h1]
    have:∀ l:List (List Nat),mF (l.map fun s=>[V.str s]) = l:=fun l=>by
     induction l with
     | nil=>rfl
     | cons a l ih=>simp [mF,ih]
    exact this l
  have hnext:bA es name = l:=by rw [qX hbk hnd hme,hlist]
  have hlK:l.length <= K:=by rw [<- hlist]; exact hKl e hee
  show eF E ((N + K + m + 44) + 1) _ _ _ _
  rw [cN]
  obtain ⟨N',hN'⟩:∃ N',N + K + m + 44 = N' + l.length + 21:=⟨N + K + m + 23 - l.length,by omega⟩
  rw [hN']
  have hloop:=KT (tb0:=tb) (fe0:=fe) h196 h111 h44 h9 h3 h4 hes hbk hnd hme hsv hnext (by omega) (its:=its.set k (.qY (pa ++ z) (some e))) N' l.length 0 fr' fe tb (by omega) hF k1 k2 k3 k4 k5 (by rw [k6 6 (by omega)]; exact g6) (by rw [k6 5 (by omega)]; exact g5) (.inl ⟨rfl,rfl,fun j nx hj=>by omega⟩)
  refine d_ _ hloop ?_
  rintro x fr2 σ2 ⟨rfl,fe',tb',b1,b2,b3,b4,b5,b6⟩
  subst b2
  simp only [reduceEqDiff,if_true,if_false]
  have hp2:((p ++ [e]) ++ (pa ++ z)).Perm es:=by
   refine List.Perm.trans ?_ hp
   rw [hz,append_assoc]
   exact List.Perm.append_left p (by simpa using (List.perm_middle (l₁:=pa) (a:=e) (l₂:=z)).symm)
  have:=ih (pa ++ z) (p ++ [e]) (some e) (its.set k (.qY (pa ++ z) (some e))) fr2 fe' tb' (by rw [hz] at hl; simp at hl ⊢; omega) hp2 (by simp [hkl]) b1 b3 (by rw [b5 28 (by omega),k6 28 (by omega)]; exact g28) b4 (by rw [b5 5 (by omega),k6 5 (by omega)]; exact g5) (by
   rcases b6 with ⟨c1,c2,c3⟩ | ⟨c1,c2⟩
   ·rcases hacc with ⟨a1,a2,a3⟩ | ⟨a1,a2⟩
    ·refine .inl ⟨by rw [c1,a1],by rw [c2,a2],fun e' he' name' hn' nx hnx=>?_⟩
     rcases List.mem_append.1 he' with he' | he'
     ·exact a3 e' he' name' hn' nx hnx
     ·simp only [mem_singleton] at he'
      subst he'
      rw [hname] at hn'
      injection hn' with hn'
      subst hn'
      rw [<- a2]
      exact c3 nx (by rw [<- hlist]; exact hnx)
    ·exact .inr ⟨by rw [c1,a1],by rw [c2]; exact a2⟩
   ·refine .inr ⟨c1,?_⟩
    rcases hacc with ⟨_,a2,_⟩ | ⟨_,a2⟩
    ·rw [<- a2]; exact c2
    ·omega)
  refine d_ _ this ?_
  rintro x fr3 σ3 ⟨rfl,fe2,tb2,its2,d1,d2,d3,d4,d5,d6,d7⟩
  exact ⟨rfl,fe2,tb2,its2,d1,by rw [d2]; simp,d3,d4,d5,fun t ht=>(d6 t ht).trans ((b5 t (by omega)).trans (k6 t (by omega))),d7⟩
def uF (es:List (V × V)) (fe:List (V × V)):Prop:=∀ e ∈ es,∀ name,e.1 = .str name -> ∀ nx ∈ iA e.2,uE fe name nx
theorem Ab (h196:E.ty 203 = some { kd:=.map 9 3,size:=1,bytes:=8,zero:=.bS }) (h111:E.ty 96 = some { kd:=.map 9 28,size:=1,bytes:=8,zero:=.bS }) (h44:E.ty 28 = some { kd:=.sl 9,size:=1,bytes:=24,zero:=.aC })
  (h9:E.ty 9 = some { kd:=.str,size:=1,bytes:=16,zero:=.str [] }) (h3:E.ty 3 = some { kd:=.int .i64,size:=1,bytes:=8,zero:=.int .i64 0 }) (h4:E.ty 4 = some { kd:=.bool,size:=1,bytes:=1,zero:=.bool false })
  {es:List (V × V)} {g:Bool} (n:Nat) {its:Sg} {a b:O} {fr:Fr} {tb:Bool} (hn:fr.n = 119) (g0:fr.get 0 = some (.imp g es)) (g6:fr.get 6 = some (.bool tb)) {Q:X -> Fr -> Sg -> Prop}
  (q0:tb = false -> ∀ fr':Fr,fr'.n = 119 -> (∀ t,t < 26 -> fr'.get t = fr.get t) -> Q (.exit 0) fr' (a :: b :: its))
  (q1:tb = true -> ∀ fr':Fr,fr'.n = 119 -> fr'.get 28 = some (.ref (its.length + 2) 0) -> fr'.get 6 = some (.bool false) -> (∀ t,t < 6 -> fr'.get t = fr.get t) ->
   eF E (n + 20) (.block 2 (.loop (bk [1,1,0,1,2,2,1,2,1,1,2,2]))) fr' (a :: b :: (its ++ [.qY es none])) fun x fr Z=>match x with
    | .exit id=>if id = 1 then Q .normal fr Z else Q (.exit id) fr Z
    | x=>Q x fr Z) :
  eF E (n + 24) (bk [1,1,0,1,2,2]) fr (a :: b :: its) Q:=by
 have e1:bk [1,1,0,1,2,2] = .seq (bk ([1,1,0,1,2,2] ++ [0])) (.block 1 (.seq (bk ([1,1,0,1,2,2] ++ [1,2,0])) (.seq (bk ([1,1,0,1,2,2] ++ [1,2,1,0])) (.block 2 (.loop (bk [1,1,0,1,2,2,1,2,1,1,2,2])))))):=rfl
 rw [e1]
 generalize hB:Code.block 2 (.loop (bk [1,1,0,1,2,2,1,2,1,1,2,2])) = B2 at q1 ⊢
 simp only [bk,AO,List.cons_append,List.nil_append,aA,Tryz.f148,Option.getD_some]
 cases tb with
 | false=>
  simp only [eO,fD,cJ,eP,cN,cR,cG,dJ,bW,aP,ofValue,bC,if_true,eG,bJ,kC,comp,aO,oA,Option.map_some,Fr.aD,hn,reduceLT,and_true,reduceCtorEq,h111,g6]
  refine q0 rfl _ (by simp only [Fr.aV,hn]) fun t ht=>?_
  simp only [Fr.aD]
  repeat (rw [if_neg (by omega)])
 | true=>
  simp only [eO,fD,cJ,eP,cN,cR,cG,dJ,bW,aP,ofValue,bC,if_true,eG,bJ,kC,comp,aO,oA,Option.map_some,Fr.aD,Fr.aV,hn,reduceEqDiff,reduceLT,and_true,if_false,reduceCtorEq,h111,length_cons,g6,g0]
  refine q1 rfl _ ?_ ?_ ?_ ?_
  ·simp only [Fr.aV,hn]
  ·simp only [Fr.aD,Fr.aV,hn,reduceEqDiff,reduceLT,and_true,if_true,if_false]
  ·simp only [Fr.aD,Fr.aV,hn,reduceEqDiff,reduceLT,and_true,if_true,if_false]
  ·intro t ht
   simp only [Fr.aD]
   repeat (rw [if_neg (by omega)])
theorem HB (h196:E.ty 203 = some { kd:=.map 9 3,size:=1,bytes:=8,zero:=.bS }) (h111:E.ty 96 = some { kd:=.map 9 28,size:=1,bytes:=8,zero:=.bS }) (h44:E.ty 28 = some { kd:=.sl 9,size:=1,bytes:=24,zero:=.aC })
  (h9:E.ty 9 = some { kd:=.str,size:=1,bytes:=16,zero:=.str [] }) (h3:E.ty 3 = some { kd:=.int .i64,size:=1,bytes:=8,zero:=.int .i64 0 }) (h4:E.ty 4 = some { kd:=.bool,size:=1,bytes:=1,zero:=.bool false })
  {es:List (V × V)} {f:List Nat} (hes:es.length <= 1000000) (hbk:fC es) (hnd:(es.map ks).Nodup) {K:Nat} (hK:K <= 4000000000000000000) (hKl:∀ e ∈ es,(iA e.2).length <= K) {g:Bool} (N:Nat) :
  ∀ (m:Nat) (its:Sg) (fr:Fr) (fe:List (V × V)) (tb:Bool),(tb = true -> Kb es f fe < m) -> (tb = false -> uF es fe) -> EY es f fe -> fr.n = 119 -> fr.get 0 = some (.imp g es) -> fr.get 6 = some (.bool tb) -> fr.get 5 = some (.ref 1 0) ->
   eF E (N + K + es.length + m + 90) (.loop (bk [1,1,0,1,2,2])) fr (.map fe :: .cells 203 [.mp 0] true :: its) fun x fr' σ'=>x = .exit 0 /\ ∃ fe' its',EY es f fe' /\ uF es fe' /\ σ' = .map fe' :: .cells 203 [.mp 0] true :: its' /\ fr'.n = 119 /\ (∀ t,t < 6 -> fr'.get t = fr.get t):=by
 have stop:∀ (n:Nat) (its:Sg) (fr:Fr) (fe:List (V × V)),uF es fe -> EY es f fe -> fr.n = 119 -> fr.get 0 = some (.imp g es) -> fr.get 6 = some (.bool false) ->
   eF E (n + 25) (.loop (bk [1,1,0,1,2,2])) fr (.map fe :: .cells 203 [.mp 0] true :: its) fun x fr' σ'=>x = .exit 0 /\ ∃ fe' its',EY es f fe' /\ uF es fe' /\ σ' = .map fe' :: .cells 203 [.mp 0] true :: its' /\ fr'.n = 119 /\ (∀ t,t < 6 -> fr'.get t = fr.get t):=by
  intro n its fr fe hc hF hn g0 g6
  show eF E ((n + 24) + 1) _ _ _ _
  rw [mM]
  refine Ab h196 h111 h44 h9 h3 h4 n hn g0 g6 (fun _ fr' k1 k2=>?_) (fun h=>by cases h)
  exact ⟨rfl,fe,its,hF,hc,rfl,k1,fun t ht=>k2 t (by omega)⟩
 intro m
 induction m with
 | zero=>
  intro its fr fe tb hp hc hF hn g0 g6 g5
  cases tb with
  | false=>exact stop (N + K + es.length + 65) its fr fe (hc rfl) hF hn g0 g6
  | true=>exact absurd (hp rfl) (Nat.not_lt_zero _)
 | succ m ih=>
  intro its fr fe tb hp hc hF hn g0 g6 g5
  cases tb with
  | false=>exact stop (N + K + es.length + m + 66) its fr fe (hc rfl) hF hn g0 g6
  | true=>
   show eF E ((N + K + es.length + m + 66 + 24) + 1) _ _ _ _
   rw [mM]
   refine Ab h196 h111 h44 h9 h3 h4 (N + K + es.length + m + 66) hn g0 g6 (fun h=>by cases h) (fun _ fr' k1 k2 k3 k4=>?_)
   show eF E ((N + K + es.length + m + 85) + 1) _ _ _ _
   rw [cN]
   obtain ⟨N',hN'⟩:∃ N',N + K + es.length + m + 85 = N' + K + es.length + 50:=⟨N + m + 35,by omega⟩
   rw [hN']
   have:=EJ (fe0:=fe) h196 h111 h44 h9 h3 h4 hes hbk hnd hK hKl (k:=its.length) N' es.length es [] none (its ++ [.qY es none]) fr' fe false rfl (by simp) (by simp) hF k1 k2 k3 (by rw [k4 5 (by omega)]; exact g5) (.inl ⟨rfl,rfl,fun e he=>by cases he⟩)
   refine d_ _ this ?_
   rintro x fr2 σ2 ⟨rfl,fe',tb',its',b1,b2,b3,b4,b5,b6,b7⟩
   subst b3
   simp only [reduceEqDiff,if_true,if_false]
   have g0':fr2.get 0 = some (.imp g es):=by rw [b6 0 (by omega),k4 0 (by omega)]; exact g0
   rcases b7 with ⟨rfl,rfl,c3⟩ | ⟨rfl,c2⟩
   ·have:=stop (N + K + es.length + m + 65) its' fr2 fe' c3 b1 b4 g0' b5
    refine d_ _ this ?_
    rintro x fr3 σ3 ⟨rfl,fe2,its2,d1,d2,d3,d4,d5⟩
    exact ⟨rfl,fe2,its2,d1,d2,d3,d4,fun t ht=>(d5 t ht).trans ((b6 t ht).trans (k4 t ht))⟩
   ·have:=ih its' fr2 fe' true (fun _=>by have:=hp rfl; omega) (fun h=>by cases h) b1 b4 g0' b5 (by rw [b6 5 (by omega),k4 5 (by omega)]; exact g5)
    refine d_ _ this ?_
    rintro x fr3 σ3 ⟨rfl,fe2,its2,d1,d2,d3,d4,d5⟩
    exact ⟨rfl,fe2,its2,d1,d2,d3,d4,fun t ht=>(d5 t ht).trans ((b6 t ht).trans (k4 t ht))⟩
end
end
section
section
variable {E:Env}
def rL:Option Nat -> Int
 | none=>-1
 | some b=>(b:Int)
theorem Cv (h196:E.ty 203 = some { kd:=.map 9 3,size:=1,bytes:=8,zero:=.bS }) (h111:E.ty 96 = some { kd:=.map 9 28,size:=1,bytes:=8,zero:=.bS }) (h44:E.ty 28 = some { kd:=.sl 9,size:=1,bytes:=24,zero:=.aC })
  (h9:E.ty 9 = some { kd:=.str,size:=1,bytes:=16,zero:=.str [] }) (h3:E.ty 3 = some { kd:=.int .i64,size:=1,bytes:=8,zero:=.int .i64 0 }) (h4:E.ty 4 = some { kd:=.bool,size:=1,bytes:=1,zero:=.bool false })
  (n:Nat) (fr:Fr) (hn:fr.n = 119) {lv:V} {l:List (List Nat)} (hl:SV lv l) {i B:Nat} (g70:fr.get 70 = some lv) (g71:fr.get 71 = some (.int .i64 (l.length:Int))) (g72:fr.get 72 = some (.int .i64 (i:Int))) (g5:fr.get 5 = some (.ref 1 0)) (g15:fr.get 15 = some (.ref B 0))
  {fe:List (V × V)} (hok:lZ fe) (hlen:l.length <= 4000000000000000000) {Z:Sg} {acc:Option Nat} (s0:Z[0]? = some (.map fe)) (s1:Z[1]? = some (.cells 203 [.mp 0] true)) (sB:Z[B]? = some (.cells 3 [.int .i64 (rL acc)] true)) {Q:X -> Fr -> Sg -> Prop}
  (q0:i = l.length -> ∀ fr':Fr,fr'.n = 119 -> (∀ t,t ≠ 73 -> fr'.get t = fr.get t) -> Q (.exit 6) fr' Z)
  (q1:∀ nx,l[i]? = some nx -> ∀ σ',((σ' = Z /\ eC (bO fe) acc nx = acc) \/ σ' = Z.set B (.cells 3 [.int .i64 (rL (eC (bO fe) acc nx))] true)) -> ∀ fr':Fr,fr'.n = 119 -> fr'.get 72 = some (.int .i64 ((i + 1:Nat):Int)) -> (∀ t,t < 17 \/ t = 70 \/ t = 71 -> fr'.get t = fr.get t) -> Q .normal fr' σ')
  (hi:i <= l.length):eF E (n + 20) (bk [1,1,1,1,0,1,2,2]) fr Z Q:=by
 simp only [bk,AO,aA,Tryz.f148,Option.getD_some]
 by_cases hil:i = l.length
 ·have hlt:decide ((i:Int) < (l.length:Int)) = false:=decide_eq_false (by omega)
  simp only [eO,fD,cJ,eP,cN,cR,cG,dJ,bW,yielded,aP,ofValue,bC,if_true,eG,bJ,kC,comp,cI,dK,gO,jE,eI,jF,bT,Option.bind_some,Fr.aD,hn,getElem?_cons_zero,getElem?_cons_succ,getElem?_toArray,reduceLT,and_true,if_false,h196,h9,h3,loadAt,storeAt,isAgg,lookup,dM,entriesOf,bV h9,bin,arith,Bool.false_eq_true,V.cells,setCells,iJ,beq_iff_eq,g71,g72,hlt]
  refine q0 hil _ (by simp only [Fr.aV,hn]) fun t ht=>by simp only [Fr.aD,ht,false_and,if_false]
 ·obtain ⟨nx,hnx⟩:∃ nx,l[i]? = some nx:=⟨_,List.getElem?_eq_getElem (by omega)⟩
  have hlt:decide ((i:Int) < (l.length:Int)) = true:=decide_eq_true (by omega)
  obtain ⟨g,full,rfl⟩:∃ g full,lv = .bQ g (l.map fun s=>[V.str s]) full:=by
   rcases hl with ⟨_,rfl⟩ | h
   ·simp at hnx
   ·exact h
  have hrow:(l.map fun s=>[V.str s])[i]? = some [V.str nx]:=by simp [hnx]
  have hidx:indexAddr E 28 (.bQ g (l.map fun s=>[V.str s]) full) (.int .i64 (i:Int)) = some (.dB g [.str nx]):=by
   simp only [indexAddr,h44,h9]
   rw [if_neg (by omega),Int.toNat_natCast,hrow]
   simp
  have hadd:wr .i64 (Im (i:Int) 1) = ((i + 1:Nat):Int):=QG (by omega)
  have fnx:=tF (x:=nx) hok
  have q1:=q1 nx hnx
  cases hd:bO fe nx with
  | none=>
   rw [hd] at fnx
   simp only [eO,fD,cJ,eP,cN,cR,cG,dJ,bW,yielded,aP,ofValue,bC,if_true,eG,bJ,kC,comp,cI,dK,gO,jE,eI,jF,bT,Option.map_some,Option.bind_some,Option.map_none,Fr.aD,Fr.aV,hn,getElem?_cons_zero,getElem?_cons_succ,getElem?_toArray,reduceEqDiff,reduceLT,and_true,if_false,reduceCtorEq,h196,h9,h3,loadAt,storeAt,isAgg,lookup,dM,entriesOf,bV h9,bin,arith,Bool.not_true,Bool.false_eq_true,Option.isSome_none,Option.some.injEq,V.cells,setCells,List.head?_cons,iJ,beq_iff_eq,g70,g71,g72,g5,hlt,hidx,fnx,hadd,s0,s1]
   refine q1 Z (.inl ⟨rfl,by simp only [eC,hd]⟩) _ ?_ ?_ ?_
   ·simp only [Fr.aV,hn]
   ·simp only [Fr.aD,Fr.aV,hn,reduceEqDiff,reduceLT,and_true,if_true,if_false]
   ·intro t ht
    simp only [Fr.aD]
    repeat (rw [if_neg (by omega)])
  | some d=>
   rw [hd] at fnx
   cases acc with
   | none=>
    have hcmp:decide (rL none < 0) = true:=by decide
    simp only [eO,fD,cJ,eP,cN,cR,cG,dJ,bW,yielded,aP,ofValue,bC,if_true,eG,bJ,kC,comp,cI,dK,gO,jE,eI,jF,bT,Option.map_some,Option.bind_some,Fr.aD,Fr.aV,hn,getElem?_cons_zero,getElem?_cons_succ,getElem?_toArray,reduceEqDiff,reduceLT,and_true,if_false,reduceCtorEq,h196,h9,h3,loadAt,storeAt,isAgg,lookup,dM,entriesOf,bV h9,bin,arith,V.aW,Bool.not_true,Bool.false_eq_true,Bool.and_self,Option.isSome_some,BEq.rfl,decide_true,Option.some.injEq,length_cons,length_nil,V.cells,setCells,take_zero,List.nil_append,List.drop_succ_cons,append_nil,Nat.zero_add,List.all_cons,List.all_nil,Nat.le_refl,drop_nil,List.head?_cons,iJ,beq_iff_eq,g70,g71,g72,g5,g15,hlt,hidx,fnx,hadd,s0,s1,sB,hcmp]
    refine q1 _ (.inr (by simp only [eC,hd,rL])) _ ?_ ?_ ?_
    ·simp only [Fr.aV,hn]
    ·simp only [Fr.aD,Fr.aV,hn,reduceEqDiff,reduceLT,and_true,if_true,if_false]
    ·intro t ht
     simp only [Fr.aD]
     repeat (rw [if_neg (by omega)])
   | some b=>
    have hcmp0:decide (rL (some b) < 0) = false:=decide_eq_false (by simp only [rL]; omega)
    by_cases hlt2:d < b
    ·have hcmp:decide ((d:Int) < rL (some b)) = true:=decide_eq_true (by simp only [rL]; omega)
     simp only [eO,fD,cJ,eP,cN,cR,cG,dJ,bW,yielded,aP,ofValue,bC,if_true,eG,bJ,kC,comp,cI,dK,gO,jE,eI,jF,bT,Option.map_some,Option.bind_some,Fr.aD,Fr.aV,hn,getElem?_cons_zero,getElem?_cons_succ,getElem?_toArray,reduceEqDiff,reduceLT,and_true,if_false,h196,h9,h3,loadAt,storeAt,isAgg,lookup,dM,entriesOf,bV h9,bin,arith,V.aW,Bool.not_true,Bool.false_eq_true,Bool.and_self,Option.isSome_some,BEq.rfl,decide_true,length_cons,length_nil,V.cells,setCells,take_zero,List.nil_append,List.drop_succ_cons,append_nil,Nat.zero_add,List.all_cons,List.all_nil,Nat.le_refl,drop_nil,List.head?_cons,iJ,beq_iff_eq,g70,g71,g72,g5,g15,hlt,hidx,fnx,hadd,s0,s1,sB,hcmp0,hcmp]
     refine q1 _ (.inr (by simp only [eC,hd,rL,if_pos hlt2])) _ ?_ ?_ ?_
     ·simp only [Fr.aV,hn]
     ·simp only [Fr.aD,Fr.aV,hn,reduceEqDiff,reduceLT,and_true,if_true,if_false]
     ·intro t ht
      simp only [Fr.aD]
      repeat (rw [if_neg (by omega)])
    ·have hcmp:decide ((d:Int) < rL (some b)) = false:=decide_eq_false (by simp only [rL]; omega)
     simp only [eO,fD,cJ,eP,cN,cR,cG,dJ,bW,yielded,aP,ofValue,bC,if_true,eG,bJ,kC,comp,cI,dK,gO,jE,eI,jF,bT,Option.map_some,Option.bind_some,Fr.aD,Fr.aV,hn,getElem?_cons_zero,getElem?_cons_succ,getElem?_toArray,reduceEqDiff,reduceLT,and_true,if_false,h196,h9,h3,loadAt,storeAt,isAgg,lookup,dM,entriesOf,bV h9,bin,arith,Bool.not_true,Bool.false_eq_true,Option.isSome_some,V.cells,setCells,List.head?_cons,iJ,beq_iff_eq,g70,g71,g72,g5,g15,hlt,hidx,fnx,hadd,s0,s1,sB,hcmp0,hcmp]
     refine q1 Z (.inl ⟨rfl,by simp only [eC,hd,if_neg hlt2]⟩) _ ?_ ?_ ?_
     ·simp only [Fr.aV,hn]
     ·simp only [Fr.aD,Fr.aV,hn,reduceEqDiff,reduceLT,and_true,if_true,if_false]
     ·intro t ht
      simp only [Fr.aD]
      repeat (rw [if_neg (by omega)])
theorem K6 (h196:E.ty 203 = some { kd:=.map 9 3,size:=1,bytes:=8,zero:=.bS }) (h111:E.ty 96 = some { kd:=.map 9 28,size:=1,bytes:=8,zero:=.bS }) (h44:E.ty 28 = some { kd:=.sl 9,size:=1,bytes:=24,zero:=.aC })
  (h9:E.ty 9 = some { kd:=.str,size:=1,bytes:=16,zero:=.str [] }) (h3:E.ty 3 = some { kd:=.int .i64,size:=1,bytes:=8,zero:=.int .i64 0 }) (h4:E.ty 4 = some { kd:=.bool,size:=1,bytes:=1,zero:=.bool false })
  {lv:V} {l:List (List Nat)} (hl:SV lv l) {B:Nat} (hB:2 <= B) {fe:List (V × V)} (hok:lZ fe) (hlen:l.length <= 4000000000000000000) (N:Nat) :
  ∀ (m i:Nat) (fr:Fr) (Z:Sg) (acc:Option Nat),m + i = l.length -> acc = (l.take i).foldl (eC (bO fe)) none -> fr.n = 119 -> fr.get 70 = some lv -> fr.get 71 = some (.int .i64 (l.length:Int)) -> fr.get 72 = some (.int .i64 (i:Int)) -> fr.get 5 = some (.ref 1 0) -> fr.get 15 = some (.ref B 0) ->
   Z[0]? = some (.map fe) -> Z[1]? = some (.cells 203 [.mp 0] true) -> Z[B]? = some (.cells 3 [.int .i64 (rL acc)] true) ->
   eF E (N + m + 21) (.loop (bk [1,1,1,1,0,1,2,2])) fr Z fun x fr' σ'=>x = .exit 6 /\ fr'.n = 119 /\ (∀ t,t < 17 -> fr'.get t = fr.get t) /\ σ'[0]? = some (.map fe) /\ σ'[1]? = some (.cells 203 [.mp 0] true) /\ σ'[B]? = some (.cells 3 [.int .i64 (rL (l.foldl (eC (bO fe)) none))] true):=by
 intro m
 induction m with
 | zero=>
  intro i fr Z acc hi ha hn g70 g71 g72 g5 g15 s0 s1 sB
  show eF E ((N + 20) + 1) _ _ _ _
  rw [mM]
  refine Cv h196 h111 h44 h9 h3 h4 N fr hn hl g70 g71 g72 g5 g15 hok hlen s0 s1 sB (fun _ fr' k1 k2=>?_) (fun nx hnx=>?_) (by omega)
  ·refine ⟨rfl,k1,fun t ht=>k2 t (by omega),s0,s1,?_⟩
   rw [sB,ha,List.take_of_length_le (by omega)]
  ·have:=(List.getElem?_eq_some_iff.1 hnx).1
   omega
 | succ m ih=>
  intro i fr Z acc hi ha hn g70 g71 g72 g5 g15 s0 s1 sB
  show eF E ((N + m + 1 + 20) + 1) _ _ _ _
  rw [mM]
  refine Cv h196 h111 h44 h9 h3 h4 (N + m + 1) fr hn hl g70 g71 g72 g5 g15 hok hlen s0 s1 sB (fun h=>by omega) (fun nx hnx σ' hσ fr' k1 k2 k3=>?_) (by omega)
  have hacc:eC (bO fe) acc nx = (l.take (i + 1)).foldl (eC (bO fe)) none:=by
   rw [List.take_add_one,hnx,ha]
   simp
  have hBl:=(List.getElem?_eq_some_iff.1 sB).1
  obtain ⟨t0,t1,tB⟩:σ'[0]? = some (.map fe) /\ σ'[1]? = some (.cells 203 [.mp 0] true) /\ σ'[B]? = some (.cells 3 [.int .i64 (rL (eC (bO fe) acc nx))] true):=by
   rcases hσ with ⟨rfl,h⟩ | rfl
   ·exact ⟨s0,s1,by rw [h]; exact sB⟩
   ·exact ⟨by rw [getElem?_set_ne (by omega)]; exact s0,by rw [getElem?_set_ne (by omega)]; exact s1,by simp [hBl]⟩
  have:=ih (i + 1) fr' σ' _ (by omega) hacc k1 (by rw [k3 70 (by omega)]; exact g70) (by rw [k3 71 (by omega)]; exact g71) k2 (by rw [k3 5 (by omega)]; exact g5) (by rw [k3 15 (by omega)]; exact g15) t0 t1 tB
  refine d_ _ this ?_
  rintro x fr2 σ2 ⟨rfl,b1,b2,b3⟩
  exact ⟨rfl,b1,fun t ht=>(b2 t ht).trans (k3 t (by omega)),b3⟩
end
end
section
theorem Fr.Gr:∀ (vs:List V) (fr:Fr) (i:Nat),i + vs.length <= fr.n -> (fr.fill i vs).n = fr.n /\ ∀ t,(fr.fill i vs).get t = if i <= t /\ t < i + vs.length then vs[t - i]? else fr.get t
 | [],fr,i,_=>⟨rfl,fun t=>by rw [if_neg (by simp only [length_nil]; omega)]; rfl⟩
 | v :: vs,fr,i,h=>by
  simp only [length_cons] at h
  obtain ⟨h1,h2⟩:=Fr.Gr vs (fr.put i v) (i + 1) (by rw [Fr.aV]; omega)
  refine ⟨by rw [Fr.fill,h1,Fr.aV],fun t=>?_⟩
  rw [Fr.fill,h2,Fr.aD]
  simp only [length_cons]
  by_cases e:t = i
  ·subst e
   rw [if_neg (by omega),if_pos (by omega),if_pos (by omega),Nat.sub_self]
   rfl
  ·by_cases e2:i + 1 <= t /\ t < i + 1 + vs.length
   ·rw [if_pos e2,if_pos (by omega),show t - i = (t - (i + 1)) + 1 by omega]
    rfl
   ·rw [if_neg e2,if_neg (by omega),if_neg (by omega)]
theorem Fr.BZ {n:Nat} {vs:List V} (h:vs.length <= n):∃ fr,Fr.init n vs = some fr /\ fr.n = n /\ ∀ t v,vs[t]? = some v -> fr.get t = some v:=by
 obtain ⟨h1,h2⟩:=Fr.Gr vs ⟨n,.leaf⟩ 0 (by simpa using h)
 refine ⟨_,by unfold Fr.init; rw [show Nat.ble vs.length n = true by rw [Nat.ble_eq]; exact h],h1,fun t v hv=>?_⟩
 have:=(List.getElem?_eq_some_iff.1 hv).1
 rw [h2,if_pos (by omega)]
 simpa using hv
section
variable {E:Env}
theorem Qo (h196:E.ty 203 = some { kd:=.map 9 3,size:=1,bytes:=8,zero:=.bS }) (h111:E.ty 96 = some { kd:=.map 9 28,size:=1,bytes:=8,zero:=.bS }) (h44:E.ty 28 = some { kd:=.sl 9,size:=1,bytes:=24,zero:=.aC })
  (h9:E.ty 9 = some { kd:=.str,size:=1,bytes:=16,zero:=.str [] }) (h3:E.ty 3 = some { kd:=.int .i64,size:=1,bytes:=8,zero:=.int .i64 0 }) (h4:E.ty 4 = some { kd:=.bool,size:=1,bytes:=1,zero:=.bool false })
  {fe:List (V × V)} (hok:lZ fe) (n:Nat) (nx:List Nat) {g1 g2 g3:Bool} (b:Nat) (Z:Sg) :
  enter E (ev E (n + 10)) (aA Tryz.f179) [.str nx,.dB g1 [.imp g2 fe],.dB g3 [.int .i64 (b:Int)]] Z = some (.bool (decide (bO fe nx = some b)),Z):=by
 obtain ⟨fr,hf,hn,hg⟩:=Fr.BZ (n:=(aA Tryz.f179).ntmps) (vs:=[.str nx,.dB g1 [.imp g2 fe],.dB g3 [.int .i64 (b:Int)]]) (show 3 <= 19 by decide)
 have g0:=hg 0 _ rfl
 have g1':=hg 1 _ rfl
 have g2':=hg 2 _ rfl
 have hn:fr.n = 19:=hn
 have fnx:=tF (x:=nx) hok
 unfold enter
 rw [hf]
 simp only [aA,Tryz.f179,Option.getD_some]
 cases hd:bO fe nx with
 | none=>
  rw [hd] at fnx
  simp only [HV,Cc,Cd,fU,bW,yielded,aP,ofValue,bC,if_true,eG,bJ,kC,comp,cI,dK,gO,eI,jF,Option.map_some,Option.bind_some,Option.map_none,Fr.aD,Fr.aV,hn,getElem?_cons_zero,getElem?_cons_succ,getElem?_toArray,reduceEqDiff,reduceLT,and_true,if_false,reduceCtorEq,h196,h9,h3,loadAt,isAgg,lookup,dM,entriesOf,bV h9,bin,arith,isConst,Bool.not_true,Bool.or_self,Bool.false_eq_true,Option.isSome_none,Option.some.injEq,List.head?_cons,EI,beq_iff_eq,g0,g1',g2',fnx,results]
  simp
 | some d=>
  rw [hd] at fnx
  have:decide ((d:Int) = (b:Int)) = decide (d = b):=by
   by_cases h:d = b
   ·rw [decide_eq_true h,decide_eq_true (by omega)]
   ·rw [decide_eq_false h,decide_eq_false (by omega)]
  simp only [HV,Cc,Cd,fU,bW,yielded,aP,ofValue,bC,if_true,eG,bJ,kC,comp,cI,dK,gO,eI,jF,Option.map_some,Option.bind_some,Fr.aD,Fr.aV,hn,getElem?_cons_zero,getElem?_cons_succ,getElem?_toArray,reduceEqDiff,reduceLT,and_true,if_false,reduceCtorEq,h196,h9,h3,loadAt,isAgg,lookup,dM,entriesOf,bV h9,bin,arith,isConst,Bool.not_true,Bool.or_self,Bool.false_eq_true,Option.isSome_some,BEq.rfl,Option.some.injEq,List.head?_cons,EI,g0,g1',g2',fnx,results,this]
noncomputable def ix (p:List Nat):Code:=AO p (aA Tryz.f65).code
theorem DC (h196:E.ty 203 = some { kd:=.map 9 3,size:=1,bytes:=8,zero:=.bS }) (h111:E.ty 96 = some { kd:=.map 9 28,size:=1,bytes:=8,zero:=.bS }) (h44:E.ty 28 = some { kd:=.sl 9,size:=1,bytes:=24,zero:=.aC })
  (h9:E.ty 9 = some { kd:=.str,size:=1,bytes:=16,zero:=.str [] }) (h3:E.ty 3 = some { kd:=.int .i64,size:=1,bytes:=8,zero:=.int .i64 0 }) (h4:E.ty 4 = some { kd:=.bool,size:=1,bytes:=1,zero:=.bool false })
  {pr:List Nat -> Bool} {k c:Nat} {caps:List V} {Z:Sg} (hcl:∀ n nx,gG E (ev E (n + c)) k (.str nx :: caps) Z = some (.bool (pr nx),Z)) {g full:Bool} {l:List (List Nat)} (hlen:l.length <= 4000000000000000000) {i:Nat} {a:List Nat} (ha:l[i]? = some a) (N:Nat) (fr:Fr)
  (hn:fr.n = 19) (g0:fr.get 0 = some (.bQ g (l.map fun s=>[V.str s]) full)) (g1:fr.get 1 = some (.fn k [] caps)) (g7:fr.get 7 = some (.int .i64 (l.length:Int))) (g8:fr.get 8 = some (.int .i64 (i:Int))) {Q:Option (X × Fr × Sg) -> Prop}
  (q1:pr a = true -> ∀ fr':Fr,fr'.get 4 = some (.int .i64 (i:Int)) -> Q (some (.ret,fr',Z)))
  (q2:pr a = false -> ∀ fr':Fr,fr'.n = 19 -> fr'.get 8 = some (.int .i64 ((i + 1:Nat):Int)) -> (∀ t,t = 0 \/ t = 1 \/ t = 7 -> fr'.get t = fr.get t) -> Q (some (.normal,fr',Z))):Q (ev E (N + c + 20) (ix [1,0,1,2,2]) fr Z):=by
 have hil:=(List.getElem?_eq_some_iff.1 ha).1
 have hlt:decide ((i:Int) < (l.length:Int)) = true:=decide_eq_true (by omega)
 have hrow:(l.map fun s=>[V.str s])[i]? = some [V.str a]:=by simp [ha]
 have hidx:indexAddr E 28 (.bQ g (l.map fun s=>[V.str s]) full) (.int .i64 (i:Int)) = some (.dB g [.str a]):=by
  simp only [indexAddr,h44,h9]
  rw [if_neg (by omega),Int.toNat_natCast,hrow]
  simp
 have hadd:wr .i64 (Im (i:Int) 1) = ((i + 1:Nat):Int):=QG (by omega)
 simp only [ix,AO,aA,Tryz.f65,Option.getD_some]
 cases hp:pr a with
 | true=>
  have hc:∀ d,gG E (ev E (N + c + d)) k (.str a :: caps) Z = some (.bool true,Z):=fun d=>by
   rw [show N + c + d = (N + d) + c by omega,hcl,hp]
  simp only [JD,HV,Cc,JE,Ce,Cd,fU,bW,aP,eK,if_true,eG,bJ,kC,comp,gO,eI,bT,Option.map_some,Fr.aD,Fr.aV,hn,reduceEqDiff,reduceLT,and_true,if_false,reduceCtorEq,h9,loadAt,isAgg,bin,arith,Bool.false_eq_true,List.nil_append,List.head?_cons,iJ,List.cons_append,g0,g1,g7,g8,hlt,hidx,hc]
  refine q1 hp _ ?_
  simp only [Fr.aD,Fr.aV,hn,reduceEqDiff,reduceLT,and_true,if_true,if_false]
 | false=>
  have hc:∀ d,gG E (ev E (N + c + d)) k (.str a :: caps) Z = some (.bool false,Z):=fun d=>by
   rw [show N + c + d = (N + d) + c by omega,hcl,hp]
  simp only [JD,Cc,JE,Ce,Cd,fU,bW,aP,eK,ofValue,bC,if_true,eG,bJ,kC,comp,gO,eI,bT,Option.map_some,Fr.aD,Fr.aV,hn,reduceEqDiff,reduceLT,and_true,if_false,reduceCtorEq,h9,loadAt,isAgg,bin,arith,Bool.false_eq_true,List.nil_append,List.head?_cons,iJ,List.cons_append,g0,g1,g7,g8,hlt,hidx,hc,hadd]
  refine q2 hp _ ?_ ?_ ?_
  ·simp only [Fr.aV,hn]
  ·simp only [Fr.aD,Fr.aV,hn,reduceEqDiff,reduceLT,and_true,if_true,if_false]
  ·intro t ht
   simp only [Fr.aD]
   repeat (rw [if_neg (by omega)])
theorem M9 (h196:E.ty 203 = some { kd:=.map 9 3,size:=1,bytes:=8,zero:=.bS }) (h111:E.ty 96 = some { kd:=.map 9 28,size:=1,bytes:=8,zero:=.bS }) (h44:E.ty 28 = some { kd:=.sl 9,size:=1,bytes:=24,zero:=.aC })
  (h9:E.ty 9 = some { kd:=.str,size:=1,bytes:=16,zero:=.str [] }) (h3:E.ty 3 = some { kd:=.int .i64,size:=1,bytes:=8,zero:=.int .i64 0 }) (h4:E.ty 4 = some { kd:=.bool,size:=1,bytes:=1,zero:=.bool false })
  {pr:List Nat -> Bool} {k c:Nat} {caps:List V} {Z:Sg} (hcl:∀ n nx,gG E (ev E (n + c)) k (.str nx :: caps) Z = some (.bool (pr nx),Z)) {g full:Bool} {l:List (List Nat)} (hlen:l.length <= 4000000000000000000) {idx:Nat} {a:List Nat} (ha:l[idx]? = some a) (hpa:pr a = true) (hno:∀ j x,j < idx -> l[j]? = some x -> pr x = false) (N:Nat) :
  ∀ (m i:Nat) (fr:Fr),m + i = idx -> fr.n = 19 -> fr.get 0 = some (.bQ g (l.map fun s=>[V.str s]) full) -> fr.get 1 = some (.fn k [] caps) -> fr.get 7 = some (.int .i64 (l.length:Int)) -> fr.get 8 = some (.int .i64 (i:Int)) ->
   ∃ fr',ev E (N + m + c + 21) (.loop (ix [1,0,1,2,2])) fr Z = some (.ret,fr',Z) /\ fr'.get 4 = some (.int .i64 (idx:Int)):=by
 have hil:=(List.getElem?_eq_some_iff.1 ha).1
 intro m
 induction m with
 | zero=>
  intro i fr hi hn g0 g1 g7 g8
  have hii:i = idx:=by omega
  subst hii
  show ∃ fr',ev E ((N + c + 20) + 1) _ _ _ = _ /\ _
  rw [Gv]
  refine DC (Q:=fun r=>∃ fr',uB E (N + c + 20) (ix [1,0,1,2,2]) r = some (.ret,fr',Z) /\ fr'.get 4 = some (.int .i64 (i:Int))) h196 h111 h44 h9 h3 h4 hcl hlen ha N fr hn g0 g1 g7 g8 (fun _ fr' k1=>⟨fr',rfl,k1⟩) (fun h=>?_)
  rw [hpa] at h; cases h
 | succ m ih=>
  intro i fr hi hn g0 g1 g7 g8
  obtain ⟨x,hx⟩:∃ x,l[i]? = some x:=⟨_,List.getElem?_eq_getElem (by omega)⟩
  show ∃ fr',ev E ((N + (m + 1) + c + 20) + 1) _ _ _ = _ /\ _
  rw [Gv]
  refine DC (Q:=fun r=>∃ fr',uB E (N + (m + 1) + c + 20) (ix [1,0,1,2,2]) r = some (.ret,fr',Z) /\ fr'.get 4 = some (.int .i64 (idx:Int))) h196 h111 h44 h9 h3 h4 hcl hlen hx (N + (m + 1)) fr hn g0 g1 g7 g8 (fun h=>?_) (fun _ fr' k1 k2 k3=>?_)
  ·rw [hno i x (by omega) hx] at h; cases h
  ·obtain ⟨fr2,h1,h2⟩:=ih (i + 1) fr' (by omega) k1 (by rw [k3 0 (by omega)]; exact g0) (by rw [k3 1 (by omega)]; exact g1) (by rw [k3 7 (by omega)]; exact g7) k2
   refine ⟨fr2,?_,h2⟩
   simp only [uB]
   rw [show N + (m + 1) + c + 20 = N + m + c + 21 by omega]
   exact h1
theorem KJ (h196:E.ty 203 = some { kd:=.map 9 3,size:=1,bytes:=8,zero:=.bS }) (h111:E.ty 96 = some { kd:=.map 9 28,size:=1,bytes:=8,zero:=.bS }) (h44:E.ty 28 = some { kd:=.sl 9,size:=1,bytes:=24,zero:=.aC })
  (h9:E.ty 9 = some { kd:=.str,size:=1,bytes:=16,zero:=.str [] }) (h3:E.ty 3 = some { kd:=.int .i64,size:=1,bytes:=8,zero:=.int .i64 0 }) (h4:E.ty 4 = some { kd:=.bool,size:=1,bytes:=1,zero:=.bool false })
  {pr:List Nat -> Bool} {k c:Nat} {caps:List V} {Z:Sg} (hcl:∀ n nx,gG E (ev E (n + c)) k (.str nx :: caps) Z = some (.bool (pr nx),Z)) {g full:Bool} {l:List (List Nat)} (hlen:l.length <= 4000000000000000000) {idx:Nat} {a:List Nat} (ha:l[idx]? = some a) (hpa:pr a = true) (hno:∀ j x,j < idx -> l[j]? = some x -> pr x = false) (N:Nat) :
  enter E (ev E (N + idx + c + 26)) (aA Tryz.f65) [.bQ g (l.map fun s=>[V.str s]) full,.fn k [] caps] Z = some (.int .i64 (idx:Int),Z):=by
 obtain ⟨fr,hf,hn,hg⟩:=Fr.BZ (n:=(aA Tryz.f65).ntmps) (vs:=[.bQ g (l.map fun s=>[V.str s]) full,.fn k [] caps]) (show 2 <= 19 by decide)
 have g0:=hg 0 _ rfl
 have g1:=hg 1 _ rfl
 have hn:fr.n = 19:=hn
 unfold enter
 rw [hf]
 have e1:(aA Tryz.f65).code = .seq (ix [0]) (.seq (.seq (ix [1,0,0]) (.block 0 (.loop (ix [1,0,1,2,2])))) (ix [1,1])):=rfl
 rw [e1]
 generalize hL:Code.loop (ix [1,0,1,2,2]) = L
 generalize hR:ix [1,1] = R
 simp only [ix,AO,aA,Tryz.f65,Option.getD_some]
 simp only [Cc,Ce,Cd,fU,bW,aP,eK,ofValue,bC,if_true,eG,bJ,kC,comp,aO,eA,builtin,Option.map_some,Fr.aD,Fr.aV,hn,getElem?_cons_zero,getElem?_toArray,reduceEqDiff,reduceLT,and_true,if_false,reduceCtorEq,h44,h9,Option.isSome_some,V.cells,setCells,g0,lenOf,length_map]
 rw [<- hL]
 have key:∀ fr:Fr,fr.n = 19 -> fr.get 0 = some (.bQ g (l.map fun s=>[V.str s]) full) -> fr.get 1 = some (.fn k [] caps) -> fr.get 7 = some (.int .i64 (l.length:Int)) -> fr.get 8 = some (.int .i64 0) ->
   ∃ fr',ev E (N + idx + c + 22) (.loop (ix [1,0,1,2,2])) fr Z = some (.ret,fr',Z) /\ fr'.get 4 = some (.int .i64 (idx:Int)):=by
  intro fr hn g0 g1 g7 g8
  have:=M9 h196 h111 h44 h9 h3 h4 hcl hlen ha hpa hno (N + 1) idx 0 fr (by omega) hn g0 g1 g7 g8
  rwa [show N + 1 + idx + c + 21 = N + idx + c + 22 by omega] at this
 generalize hfx:Fr.put (Fr.put (Fr.put (Fr.put fr 4 _) 6 _) 7 _) 8 _ = fx
 obtain ⟨fr',k1,k2⟩:=key fx (by rw [<- hfx]; simp only [Fr.aV,hn]) (by rw [<- hfx]; simp only [Fr.aD,Fr.aV,hn,reduceEqDiff,reduceLT,and_true,if_false,g0]) (by rw [<- hfx]; simp only [Fr.aD,Fr.aV,hn,reduceEqDiff,reduceLT,and_true,if_false,g1]) (by rw [<- hfx]; simp only [Fr.aD,Fr.aV,hn,reduceEqDiff,reduceLT,and_true,if_true,if_false]) (by rw [<- hfx]; simp only [Fr.aD,Fr.aV,hn,reduceEqDiff,reduceLT,and_true,if_true,if_false])
 rw [k1]
 simp only [results,k2]
end
end
section
section
variable {E:Env}
theorem xB {α:Type} {F:α -> Option α}:∀ {l:List α},(∀ x ∈ l,F x = some x) -> aX F l = some l
 | [],_=>rfl
 | x :: l,h=>by
  simp only [aX,h x (mem_cons_self ..),xB fun y hy=>h y (mem_cons_of_mem _ hy)]
theorem Mb {Z:Sg} {ty:Nat -> Option Ty} {n b:Nat} {fe:List (V × V)} (hb:Z[b]? = some (.map fe)) (h:lZ fe):bN Z ty true (n + 2) (.mp b) = some (.imp true fe):=by
 rw [bN]
 simp only [hb]
 rw [xB]
 intro e he
 obtain ⟨k,m,rfl⟩:=h e he
 simp [bN,cH,V.cells,plainCell]
theorem Fi {Z:Sg} {ty:Nat -> Option Ty} {b t:Nat} {c c':V} (hb:Z[b]? = some (.cells t [c] true)) (hc:bN Z ty true 11 c = some c') (ht:cH true c' = true):aZ.one Z ty true (.ref b 0) = some (.dB true [c']):=by
 unfold aZ.one
 rw [show c_ = 11 + 1 from rfl,bN]
 simp only [hb,List.drop_zero,aX,hc,ht,if_true]
 rfl
theorem M_ (h196:E.ty 203 = some { kd:=.map 9 3,size:=1,bytes:=8,zero:=.bS }) (h111:E.ty 96 = some { kd:=.map 9 28,size:=1,bytes:=8,zero:=.bS }) (h44:E.ty 28 = some { kd:=.sl 9,size:=1,bytes:=24,zero:=.aC })
  (h9:E.ty 9 = some { kd:=.str,size:=1,bytes:=16,zero:=.str [] }) (h3:E.ty 3 = some { kd:=.int .i64,size:=1,bytes:=8,zero:=.int .i64 0 }) (h4:E.ty 4 = some { kd:=.bool,size:=1,bytes:=1,zero:=.bool false }) (f1:E.hspec 65 = none) (f2:E.spec 65 = none) (f3:E.fn 65 = some (aA Tryz.f65)) (f4:E.mode 65 = .eT) (f5:E.hspec 179 = none) (f6:E.spec 179 = none) (f7:E.fn 179 = some (aA Tryz.f179)) (f8:E.mode 179 = .shared)
  {fe:List (V × V)} (hok:lZ fe) {Z:Sg} {B:Nat} (s0:Z[0]? = some (.map fe)) (s1:Z[1]? = some (.cells 203 [.mp 0] true)) {b:Nat} (sB:Z[B]? = some (.cells 3 [.int .i64 (b:Int)] true)) {lv:V} {l:List (List Nat)} (hl:SV lv l) (hlen:l.length <= 4000000000000000000)
  {idx:Nat} {a:List Nat} (ha:l[idx]? = some a) (hpa:bO fe a = some b) (hno:∀ j x,j < idx -> l[j]? = some x -> bO fe x ≠ some b) (N:Nat) :
  gG E (ev E (N + l.length + 40)) 65 [lv,.fn 179 [] [.ref 1 0,.ref B 0]] Z = some (.int .i64 (idx:Int),Z):=by
 obtain ⟨g,full,rfl⟩:∃ g full,lv = .bQ g (l.map fun s=>[V.str s]) full:=by
  rcases hl with ⟨_,rfl⟩ | h
  ·simp at ha
  ·exact h
 have hil:=(List.getElem?_eq_some_iff.1 ha).1
 have hsn:aX (aZ Z E.ty true) [.bQ g (l.map fun s=>[V.str s]) full,.fn 179 [] [.ref 1 0,.ref B 0]] = some [.bQ g (l.map fun s=>[V.str s]) full,.fn 179 [] [.dB true [.imp true fe],.dB true [.int .i64 (b:Int)]]]:=by
  have k1:=Fi (ty:=E.ty) s1 (Mb (n:=9) s0 hok) rfl
  have k2:=Fi (ty:=E.ty) sB (c':=.int .i64 (b:Int)) (by simp only [bN]) rfl
  have k3:aZ Z E.ty true (.bQ g (l.map fun s=>[V.str s]) full) = some (.bQ g (l.map fun s=>[V.str s]) full):=by
   simp only [aZ,aZ.one,c_,bN,cH,Bool.true_or,if_true]
  have k4:aZ Z E.ty true (.fn 179 [] [.ref 1 0,.ref B 0]) = some (.fn 179 [] [.dB true [.imp true fe],.dB true [.int .i64 (b:Int)]]):=by
   simp only [aZ,aX,k1,k2]
  simp only [aX,k3,k4]
 have hcl:∀ n nx,gG E (ev E (n + 11)) 179 (.str nx :: [.dB true [.imp true fe],.dB true [.int .i64 (b:Int)]]) [] = some (.bool (decide (bO fe nx = some b)),[]):=fun n nx=>by
  have:=Qo h196 h111 h44 h9 h3 h4 hok (n + 1) nx (g1:=true) (g2:=true) (g3:=true) b []
  unfold gG
  simp only [f5,f6,f7,f8]
  rw [show n + 11 = n + 1 + 10 by omega,this]
 have hen:=KJ h196 h111 h44 h9 h3 h4 (Z:=[]) hcl (g:=g) (full:=full) hlen ha (by simp [hpa]) (fun j x hj hx=>by simp [hno j x hj hx]) (N + l.length - idx + 3)
 rw [show N + l.length - idx + 3 + idx + 11 + 26 = N + l.length + 40 by omega] at hen
 unfold gG
 simp only [f1,f2,f3,f4,hsn,hen,cT,aZ,aZ.one,c_,bN,cH,if_true]
theorem Jh (h196:E.ty 203 = some { kd:=.map 9 3,size:=1,bytes:=8,zero:=.bS }) (h111:E.ty 96 = some { kd:=.map 9 28,size:=1,bytes:=8,zero:=.bS }) (h44:E.ty 28 = some { kd:=.sl 9,size:=1,bytes:=24,zero:=.aC })
  (h9:E.ty 9 = some { kd:=.str,size:=1,bytes:=16,zero:=.str [] }) (h3:E.ty 3 = some { kd:=.int .i64,size:=1,bytes:=8,zero:=.int .i64 0 }) (h4:E.ty 4 = some { kd:=.bool,size:=1,bytes:=1,zero:=.bool false })
  {fr:Fr} {Z:Sg} {x:Nat} {s:List Nat} (h:aP fr (.tmp x) = some (.str s)):eW E fr Z 28 1 #[(0,.tmp x)] = some (.sl Z.length 0 1 none,Z ++ [.cells 9 [.str s] true]):=by
 simp [eW,h44,h9,kN,h,fill,gR,V.cells,V.aW,setCells]
theorem Ig (h196:E.ty 203 = some { kd:=.map 9 3,size:=1,bytes:=8,zero:=.bS }) (h111:E.ty 96 = some { kd:=.map 9 28,size:=1,bytes:=8,zero:=.bS }) (h44:E.ty 28 = some { kd:=.sl 9,size:=1,bytes:=24,zero:=.aC })
  (h9:E.ty 9 = some { kd:=.str,size:=1,bytes:=16,zero:=.str [] }) (h3:E.ty 3 = some { kd:=.int .i64,size:=1,bytes:=8,zero:=.int .i64 0 }) (h4:E.ty 4 = some { kd:=.bool,size:=1,bytes:=1,zero:=.bool false })
  {Z:Sg} {C:Nat} {cs:List V} {ex:Bool} {v:V} (hC:Z[C]? = some (.cells 9 cs ex)) (hlen:cs.length <= 2000000) :
  append E (Z ++ [.cells 9 [v] true]) #[28,28] (.sl C 0 cs.length none) (.sl Z.length 0 1 none) = some (.sl (Z.length + 1) 0 (cs.length + 1) none,(if ex then Z else Z.set C .dead) ++ [.cells 9 [v] true] ++ [.cells 9 (cs ++ [v]) false]):=by
 have hCl:=(List.getElem?_eq_some_iff.1 hC).1
 have hC':(Z ++ [.cells 9 [v] true])[C]? = some (.cells 9 cs ex):=by rw [getElem?_append_left hCl]; exact hC
 have hD:(Z ++ [.cells 9 [v] true])[Z.length]? = some (.cells 9 [v] true):=by simp
 have hr:roomy (cs.length + 1) 16 = true:=by
  unfold roomy
  rw [decide_eq_true_eq]
  omega
 have hp:gY E #[28,28] = true:=by
  simp [gY,h44,yX]
 have he:elems (Z ++ [.cells 9 [v] true]) 1 (.sl Z.length 0 1 none) = some ([v],1):=by
  simp only [elems,hD]
  simp
 unfold append
 simp only [getElem?_toArray,getElem?_cons_zero,h44,h9,hp,he,hC',hr]
 cases ex with
 | true=>simp; intro h; omega
 | false=>simp [List.set_append_left _ _ hCl]; intro h; omega
theorem sub1 {b:Nat} (h0:0 < b) (h:b <= 1000000):wr .i64 (Oq (b:Int) 1) = ((b - 1:Nat):Int):=by
 have e:(2:Int) ^ IntKind.i64.bits = 18446744073709551616:=by decide
 have e2:(2:Int) ^ (IntKind.i64.bits - 1) = 9223372036854775808:=by decide
 have e3:IntKind.i64.signed = true:=rfl
 rw [Ea,zS]
 unfold IntKind.wrap
 simp only [e,e2,e3,Bool.true_and,decide_eq_true_eq]
 split <;> omega
theorem BC (h196:E.ty 203 = some { kd:=.map 9 3,size:=1,bytes:=8,zero:=.bS }) (h111:E.ty 96 = some { kd:=.map 9 28,size:=1,bytes:=8,zero:=.bS }) (h44:E.ty 28 = some { kd:=.sl 9,size:=1,bytes:=24,zero:=.aC })
  (h9:E.ty 9 = some { kd:=.str,size:=1,bytes:=16,zero:=.str [] }) (h3:E.ty 3 = some { kd:=.int .i64,size:=1,bytes:=8,zero:=.int .i64 0 }) (h4:E.ty 4 = some { kd:=.bool,size:=1,bytes:=1,zero:=.bool false }) (f1:E.hspec 65 = none) (f2:E.spec 65 = none) (f3:E.fn 65 = some (aA Tryz.f65)) (f4:E.mode 65 = .eT) (f5:E.hspec 179 = none) (f6:E.spec 179 = none) (f7:E.fn 179 = some (aA Tryz.f179)) (f8:E.mode 179 = .shared)
  {es:List (V × V)} {g:Bool} (hbk:fC es) {fe:List (V × V)} (hok:lZ fe) {fr:Fr} (hn:fr.n = 119) {B C:Nat} {at_:List Nat} {cs:List V} {ex:Bool} (g0:fr.get 0 = some (.imp g es)) (g5:fr.get 5 = some (.ref 1 0)) (g15:fr.get 15 = some (.ref B 0)) (g20:fr.get 20 = some (.sl C 0 cs.length none)) (g21:fr.get 21 = some (.str at_))
  {Z:Sg} {b:Nat} (s0:Z[0]? = some (.map fe)) (s1:Z[1]? = some (.cells 203 [.mp 0] true)) (sB:Z[B]? = some (.cells 3 [.int .i64 (b:Int)] true)) (sC:Z[C]? = some (.cells 9 cs ex)) (hBC:B ≠ C) (hB:2 <= B) (hC:2 <= C) (hlen:cs.length <= 2000000) (hb:b <= 1000000) {K:Nat} (hK:K <= 4000000000000000000) (hl:(bA es at_).length <= K) (N:Nat) {Q:X -> Fr -> Sg -> Prop}
  (q0:b = 0 -> ∀ fr':Fr,fr'.n = 119 -> (∀ t,t < 99 -> fr'.get t = fr.get t) -> Q (.exit 8) fr' Z)
  (q1:0 < b -> ∃ (idx:Nat) (a:List Nat),(bA es at_)[idx]? = some a /\ bO fe a = some b /\ (∀ j x,j < idx -> (bA es at_)[j]? = some x -> bO fe x ≠ some b) /\
   ∀ (fr':Fr) (σ':Sg) (C':Nat),fr'.n = 119 -> (∀ t,t < 20 -> fr'.get t = fr.get t) -> fr'.get 20 = some (.sl C' 0 (cs ++ [V.str a]).length none) -> fr'.get 21 = some (.str a) -> σ'[0]? = some (.map fe) -> σ'[1]? = some (.cells 203 [.mp 0] true) -> σ'[B]? = some (.cells 3 [.int .i64 ((b - 1:Nat):Int)] true) -> σ'[C']? = some (.cells 9 (cs ++ [.str a]) false) -> B ≠ C' -> 2 <= C' -> Q .normal fr' σ') :
  eF E (N + K + 70) (bk [1,1,1,1,1,1,1,0,1,2,2]) fr Z Q:=by
 by_cases hb0:b = 0
 ·have hcmp:decide ((0:Int) < (b:Int)) = false:=decide_eq_false (by omega)
  simp only [bk,AO,aA,Tryz.f148,Option.getD_some]
  simp only [eO,fD,cJ,eP,cN,cR,cG,dJ,bW,aP,eK,ofValue,bC,if_true,eG,bJ,kC,comp,Fz.apps,Fz.lits,aO,dK,gO,jE,eI,bT,eA,builtin,Option.map_some,Fr.aD,Fr.aV,hn,getElem?_cons_zero,getElem?_toArray,reduceEqDiff,reduceLT,and_true,if_false,h111,h44,h9,h3,loadAt,storeAt,isAgg,lookup,dM,entriesOf,bV h9,bin,arith,Bool.false_eq_true,Option.isSome_some,V.cells,setCells,iJ,g15,sB,hcmp]
  refine q0 hb0 _ (by simp only [Fr.aV,hn]) fun t ht=>?_
  simp only [Fr.aD]
  repeat (rw [if_neg (by omega)])
 ·obtain ⟨idx,a,ha,hpa,hno,q1⟩:=q1 (by omega)
  have hcmp:decide ((0:Int) < (b:Int)) = true:=decide_eq_true (by omega)
  obtain ⟨r,hr1,hr2⟩:=xI (x:=at_) hbk
  have hsv:=sG (x:=at_) hbk
  have hcall:∀ d,gG E (ev E (N + K + (d + 40))) 65 [valOf es at_,.fn 179 [] [.ref 1 0,.ref B 0]] Z = some (.int .i64 (idx:Int),Z):=fun d=>by
   have:=M_ h196 h111 h44 h9 h3 h4 f1 f2 f3 f4 f5 f6 f7 f8 hok s0 s1 sB hsv (by omega) ha hpa hno (N + K - (bA es at_).length + d)
   rw [show N + K - (bA es at_).length + d + (bA es at_).length + 40 = N + K + (d + 40) by omega] at this
   exact this
  obtain ⟨gg,full,hv⟩:∃ gg full,valOf es at_ = .bQ gg ((bA es at_).map fun s=>[V.str s]) full:=by
   rcases hsv with ⟨_,h⟩ | h
   ·rw [h] at ha; simp at ha
   ·exact h
  have hr3:iX iE (.str at_) es = some (some (valOf es at_)):=by
   cases r with
   | none=>rw [hv] at hr2; cases hr2
   | some v=>rw [hr1]; simp only [Option.getD_some] at hr2; rw [hr2]
  have hrow:((bA es at_).map fun s=>[V.str s])[idx]? = some [V.str a]:=by simp [ha]
  have hidx:indexAddr E 28 (valOf es at_) (.int .i64 (idx:Int)) = some (.dB gg [.str a]):=by
   rw [hv]
   simp only [indexAddr,h44,h9]
   rw [if_neg (by omega),Int.toNat_natCast,hrow]
   simp
  have hlit:∀ (fr:Fr) (x:Nat) (s:List Nat),aP fr (.tmp x) = some (.str s) -> eW E fr Z 28 1 #[(0,.tmp x)] = some (.sl Z.length 0 1 none,Z ++ [.cells 9 [.str s] true]):=fun fr x s h=>Jh h196 h111 h44 h9 h3 h4 h
  have happ:=Ig h196 h111 h44 h9 h3 h4 (v:=.str a) sC hlen
  simp only [bk,AO,aA,Tryz.f148,Option.getD_some]
  simp only [eO,fD,cJ,eP,cN,cR,cG,dJ,bW,aP,eK,ofValue,bC,if_true,eG,bJ,kC,comp,Fz.apps,Fz.lits,aO,dK,gO,jE,eI,bT,eA,builtin,Option.map_some,Fr.aD,Fr.aV,hn,getElem?_cons_zero,getElem?_toArray,reduceEqDiff,reduceLT,and_true,if_false,reduceCtorEq,h111,h44,h9,h3,loadAt,storeAt,isAgg,lookup,dM,entriesOf,bV h9,bin,arith,Bool.not_true,Bool.false_eq_true,Option.isSome_some,V.cells,setCells,List.nil_append,append_nil,List.head?_cons,iJ,iP,g0,g5,g15,g20,g21,sB,hcmp,hr3,hcall,hidx]
  generalize hfx:Fr.put _ 115 _ = fx
  have x115:aP fx (.tmp 115) = some (.str a):=by rw [<- hfx]; simp only [aP,Fr.aD,Fr.aV,hn,reduceEqDiff,reduceLT,and_true,if_true,if_false]
  have x114:fx.get 114 = some (.sl C 0 cs.length none):=by rw [<- hfx]; simp only [Fr.aD,Fr.aV,hn,reduceEqDiff,reduceLT,and_true,if_true,if_false]
  have x21:fx.get 21 = some (.str a):=by rw [<- hfx]; simp only [Fr.aD,Fr.aV,hn,reduceEqDiff,reduceLT,and_true,if_true,if_false]
  have x15:fx.get 15 = some (.ref B 0):=by rw [<- hfx]; simp only [Fr.aD,Fr.aV,hn,reduceEqDiff,reduceLT,and_true,if_false,g15]
  have xlo:∀ t,t < 20 -> fx.get t = fr.get t:=by
   intro t ht
   rw [<- hfx]
   simp only [Fr.aD]
   repeat (rw [if_neg (by omega)])
  have xn:fx.n = 119:=by rw [<- hfx]; simp only [Fr.aV,hn]
  clear hfx
  rw [hlit fx 115 a x115]
  have hn:=xn
  obtain ⟨Y,hτ⟩:∃ Y,(if ex then Z else Z.set C .dead) ++ [O.cells 9 [.str a] true] ++ [O.cells 9 (cs ++ [.str a]) false] = Y:=⟨_,rfl⟩
  rw [hτ] at happ
  have hBl:=(List.getElem?_eq_some_iff.1 sB).1
  have hin:∀ j o,j ≠ C -> Z[j]? = some o -> Y[j]? = some o:=by
   intro j o hj ho
   have hjl:=(List.getElem?_eq_some_iff.1 ho).1
   rw [<- hτ]
   cases ex with
   | true=>
    simp only [if_true]
    rw [append_assoc,getElem?_append_left hjl]
    exact ho
   | false=>
    simp only [Bool.false_eq_true,if_false]
    rw [append_assoc,getElem?_append_left (by simpa using hjl),getElem?_set_ne (fun e=>hj e.symm)]
    exact ho
  have t0:=hin 0 _ (by omega) s0
  have t1:=hin 1 _ (by omega) s1
  have tB:=hin B _ hBC sB
  have tlen:(if ex then Z else Z.set C .dead).length = Z.length:=by cases ex <;> simp
  have tC:Y[Z.length + 1]? = some (.cells 9 (cs ++ [.str a]) false):=by
   rw [<- hτ,List.getElem?_append_right (by simp [tlen])]
   simp [tlen]
  have hsub:=sub1 (by omega:0 < b) hb
  simp only [if_true,Option.map_some,Fr.aD,Fr.aV,hn,getElem?_cons_zero,reduceEqDiff,reduceLT,and_true,if_false,V.aW,Bool.and_self,BEq.rfl,decide_true,length_cons,length_nil,take_zero,List.nil_append,List.drop_succ_cons,append_nil,Nat.zero_add,List.all_cons,List.all_nil,Nat.le_refl,drop_nil,happ,x114,x15,tB,hsub]
  refine q1 _ _ (Z.length + 1) ?_ ?_ ?_ ?_ ?_ ?_ ?_ ?_ ?_ ?_
  ·simp only [Fr.aV,hn]
  ·intro t ht
   simp only [Fr.aD]
   repeat (rw [if_neg (by omega)])
   exact xlo t ht
  ·simp only [Fr.aD,Fr.aV,hn,reduceEqDiff,reduceLT,and_true,if_true,if_false,List.length_append,length_cons,length_nil]
  ·simp only [Fr.aD,Fr.aV,hn,reduceEqDiff,reduceLT,and_true,if_false,x21]
  ·rw [getElem?_set_ne (by omega)]; exact t0
  ·rw [getElem?_set_ne (by omega)]; exact t1
  ·have:=(List.getElem?_eq_some_iff.1 tB).1
   simp [this]
  ·rw [getElem?_set_ne (by omega)]; exact tC
  ·omega
  ·omega
end
end
end Go.Ax
end
