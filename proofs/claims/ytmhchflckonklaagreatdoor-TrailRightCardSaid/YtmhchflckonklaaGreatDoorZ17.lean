/- Part 17 of the proof. -/
import Derived.Test.YtmhchflckonklaaGreatDoorY
import Derived.Test.YtmhchflckonklaaGreatDoorZ16
import Derived.Test.YtmhchflckonklaaGreatDoorZ13
set_option maxHeartbeats 8000000
set_option linter.unusedVariables false
set_option maxRecDepth 10000
open Nat (reduceEqDiff reduceLT reduceAdd reduceLeDiff reduceMul)
open Int (reduceNeg)
section
namespace Go.Proofs.YtmhchflckonklaaGreatDoor
open Go Go.Ax Go.AxS
section
section
variable {E:Env}{Z:Sg}{K:V->Sg->Prop}
theorem VS (h:bK E) {c:Nat}:aB E 262 [.int .i32 (c:Int)] Z K=K (.bool (sign c)) Z:=by
 refine aB.of ?_
 rw[aI h.Ze h.WD h.Z5 h.Yl (args':=[.int .i32 (c:Int)]) (by simp only[aW,show aT Z E.ty true (.int .i32 (c:Int))=some (.int .i32 (c:Int)) from rfl]),aY (by kernel_rfl)]
 have hcut:(0<=c/\c<=44)\/(45<=c/\c<=45)\/(46<=c/\c<=46)\/(47<=c/\c<=47)\/(48<=c/\c<=57)\/(58<=c/\c<=64)\/(65<=c/\c<=90)\/(91<=c/\c<=94)\/(95<=c/\c<=95)\/(96<=c/\c<=96)\/(97<=c/\c<=122)\/(123<=c/\123<=c):=by omega
 rcases hcut with⟨h1,h2⟩ | ⟨h1,h2⟩ | ⟨h1,h2⟩ | ⟨h1,h2⟩ | ⟨h1,h2⟩ | ⟨h1,h2⟩ | ⟨h1,h2⟩ | ⟨h1,h2⟩ | ⟨h1,h2⟩ | ⟨h1,h2⟩ | ⟨h1,h2⟩ | ⟨h1,h2⟩
 ·rw[show sign c=false from by unfold sign;simp;omega]
  have q0:decide ((97:Int)<=(c:Int))=false:=AS (by omega)
  have q2:decide ((65:Int)<=(c:Int))=false:=AS (by omega)
  have q4:decide ((48:Int)<=(c:Int))=false:=AS (by omega)
  have q6:decide ((c:Int)=46)=false:=AS (by omega)
  have q7:decide ((c:Int)=95)=false:=AS (by omega)
  have q8:decide ((c:Int)=45)=false:=AS (by omega)
  simp only[aA,Tryz.f262,KP,↓reduceIte,reduceEqDiff,reduceLT,reduceCtorEq,q0,q2,q4,q6,q7,q8]
  exact rfl
 ·rw[show sign c=true from by unfold sign;simp;omega]
  have q0:decide ((97:Int)<=(c:Int))=false:=AS (by omega)
  have q2:decide ((65:Int)<=(c:Int))=false:=AS (by omega)
  have q4:decide ((48:Int)<=(c:Int))=false:=AS (by omega)
  have q6:decide ((c:Int)=46)=false:=AS (by omega)
  have q7:decide ((c:Int)=95)=false:=AS (by omega)
  have q8:decide ((c:Int)=45)=true:=AT (by omega)
  simp only[aA,Tryz.f262,KP,↓reduceIte,reduceEqDiff,reduceLT,reduceCtorEq,q0,q2,q4,q6,q7,q8]
  exact rfl
 ·rw[show sign c=true from by unfold sign;simp;omega]
  have q0:decide ((97:Int)<=(c:Int))=false:=AS (by omega)
  have q2:decide ((65:Int)<=(c:Int))=false:=AS (by omega)
  have q4:decide ((48:Int)<=(c:Int))=false:=AS (by omega)
  have q6:decide ((c:Int)=46)=true:=AT (by omega)
  simp only[aA,Tryz.f262,KP,↓reduceIte,reduceEqDiff,reduceLT,reduceCtorEq,q0,q2,q4,q6]
  exact rfl
 ·rw[show sign c=false from by unfold sign;simp;omega]
  have q0:decide ((97:Int)<=(c:Int))=false:=AS (by omega)
  have q2:decide ((65:Int)<=(c:Int))=false:=AS (by omega)
  have q4:decide ((48:Int)<=(c:Int))=false:=AS (by omega)
  have q6:decide ((c:Int)=46)=false:=AS (by omega)
  have q7:decide ((c:Int)=95)=false:=AS (by omega)
  have q8:decide ((c:Int)=45)=false:=AS (by omega)
  simp only[aA,Tryz.f262,KP,↓reduceIte,reduceEqDiff,reduceLT,reduceCtorEq,q0,q2,q4,q6,q7,q8]
  exact rfl
 ·rw[show sign c=true from by unfold sign;simp;omega]
  have q0:decide ((97:Int)<=(c:Int))=false:=AS (by omega)
  have q2:decide ((65:Int)<=(c:Int))=false:=AS (by omega)
  have q4:decide ((48:Int)<=(c:Int))=true:=AT (by omega)
  have q5:decide ((c:Int)<=57)=true:=AT (by omega)
  simp only[aA,Tryz.f262,KP,↓reduceIte,reduceEqDiff,reduceLT,reduceCtorEq,q0,q2,q4,q5]
  exact rfl
 ·rw[show sign c=false from by unfold sign;simp;omega]
  have q0:decide ((97:Int)<=(c:Int))=false:=AS (by omega)
  have q2:decide ((65:Int)<=(c:Int))=false:=AS (by omega)
  have q4:decide ((48:Int)<=(c:Int))=true:=AT (by omega)
  have q5:decide ((c:Int)<=57)=false:=AS (by omega)
  have q6:decide ((c:Int)=46)=false:=AS (by omega)
  have q7:decide ((c:Int)=95)=false:=AS (by omega)
  have q8:decide ((c:Int)=45)=false:=AS (by omega)
  simp only[aA,Tryz.f262,KP,↓reduceIte,reduceEqDiff,reduceLT,reduceCtorEq,q0,q2,q4,q5,q6,q7,q8]
  exact rfl
 ·rw[show sign c=true from by unfold sign;simp;omega]
  have q0:decide ((97:Int)<=(c:Int))=false:=AS (by omega)
  have q2:decide ((65:Int)<=(c:Int))=true:=AT (by omega)
  have q3:decide ((c:Int)<=90)=true:=AT (by omega)
  simp only[aA,Tryz.f262,KP,↓reduceIte,reduceEqDiff,reduceLT,reduceCtorEq,q0,q2,q3]
  exact rfl
 ·rw[show sign c=false from by unfold sign;simp;omega]
  have q0:decide ((97:Int)<=(c:Int))=false:=AS (by omega)
  have q2:decide ((65:Int)<=(c:Int))=true:=AT (by omega)
  have q3:decide ((c:Int)<=90)=false:=AS (by omega)
  have q4:decide ((48:Int)<=(c:Int))=true:=AT (by omega)
  have q5:decide ((c:Int)<=57)=false:=AS (by omega)
  have q6:decide ((c:Int)=46)=false:=AS (by omega)
  have q7:decide ((c:Int)=95)=false:=AS (by omega)
  have q8:decide ((c:Int)=45)=false:=AS (by omega)
  simp only[aA,Tryz.f262,KP,↓reduceIte,reduceEqDiff,reduceLT,reduceCtorEq,q0,q2,q3,q4,q5,q6,q7,q8]
  exact rfl
 ·rw[show sign c=true from by unfold sign;simp;omega]
  have q0:decide ((97:Int)<=(c:Int))=false:=AS (by omega)
  have q2:decide ((65:Int)<=(c:Int))=true:=AT (by omega)
  have q3:decide ((c:Int)<=90)=false:=AS (by omega)
  have q4:decide ((48:Int)<=(c:Int))=true:=AT (by omega)
  have q5:decide ((c:Int)<=57)=false:=AS (by omega)
  have q6:decide ((c:Int)=46)=false:=AS (by omega)
  have q7:decide ((c:Int)=95)=true:=AT (by omega)
  simp only[aA,Tryz.f262,KP,↓reduceIte,reduceEqDiff,reduceLT,reduceCtorEq,q0,q2,q3,q4,q5,q6,q7]
  exact rfl
 ·rw[show sign c=false from by unfold sign;simp;omega]
  have q0:decide ((97:Int)<=(c:Int))=false:=AS (by omega)
  have q2:decide ((65:Int)<=(c:Int))=true:=AT (by omega)
  have q3:decide ((c:Int)<=90)=false:=AS (by omega)
  have q4:decide ((48:Int)<=(c:Int))=true:=AT (by omega)
  have q5:decide ((c:Int)<=57)=false:=AS (by omega)
  have q6:decide ((c:Int)=46)=false:=AS (by omega)
  have q7:decide ((c:Int)=95)=false:=AS (by omega)
  have q8:decide ((c:Int)=45)=false:=AS (by omega)
  simp only[aA,Tryz.f262,KP,↓reduceIte,reduceEqDiff,reduceLT,reduceCtorEq,q0,q2,q3,q4,q5,q6,q7,q8]
  exact rfl
 ·rw[show sign c=true from by unfold sign;simp;omega]
  have q0:decide ((97:Int)<=(c:Int))=true:=AT (by omega)
  have q1:decide ((c:Int)<=122)=true:=AT (by omega)
  simp only[aA,Tryz.f262,KP,↓reduceIte,reduceEqDiff,reduceLT,reduceCtorEq,q0,q1]
  exact rfl
 ·rw[show sign c=false from by unfold sign;simp;omega]
  have q0:decide ((97:Int)<=(c:Int))=true:=AT (by omega)
  have q1:decide ((c:Int)<=122)=false:=AS (by omega)
  have q2:decide ((65:Int)<=(c:Int))=true:=AT (by omega)
  have q3:decide ((c:Int)<=90)=false:=AS (by omega)
  have q4:decide ((48:Int)<=(c:Int))=true:=AT (by omega)
  have q5:decide ((c:Int)<=57)=false:=AS (by omega)
  have q6:decide ((c:Int)=46)=false:=AS (by omega)
  have q7:decide ((c:Int)=95)=false:=AS (by omega)
  have q8:decide ((c:Int)=45)=false:=AS (by omega)
  simp only[aA,Tryz.f262,KP,↓reduceIte,reduceEqDiff,reduceLT,reduceCtorEq,q0,q1,q2,q3,q4,q5,q6,q7,q8]
  exact rfl
theorem Vb (h:bK E) {c:Nat}:KC E 262 [.int .i32 (c:Int)] Z (.bool (sign c)) Z:=cU λ_=>VS h
theorem Nn (h:bK E) {c:Nat}:aB E 261 [.int .i32 (c:Int)] Z K=K (.bool (!sign c)) Z:=by
 refine aB.of ?_
 rw[aI h.Zf h.WE h.Z6 h.Ym (args':=[.int .i32 (c:Int)]) (by simp only[aW,show aT Z E.ty true (.int .i32 (c:Int))=some (.int .i32 (c:Int)) from rfl]),aY (by kernel_rfl)]
 have ks:=λ(Y:Sg)=>Vb (Z:=Y) h (c:=c)
 simp only[aA,Tryz.f261,KP,↓reduceIte,reduceLT,reduceCtorEq,ks]
 exact rfl
theorem byte_at {s:bH}{pos ch:Nat}(hc:s[pos]?=some ch)(h:ch<256):((rS s).get! pos).toNat=ch:=by
 show ((s.map UInt8.ofNat).toArray[pos]!).toNat=ch
 have e:(s.map UInt8.ofNat).toArray[pos]?=some (UInt8.ofNat ch):=by simp[hc]
 rw[getElem!_def,e]
 simp only[UInt8.toNat_ofNat']
 omega
theorem Rt {s:bH}{pos ch:Nat}(hc:s[pos]?=some ch)(h1:¬ ch<128)(h2:ch<256):128<=(Utf8.decode (rS s) pos).1:=by
 unfold Utf8.decode
 simp only[kq,byte_at hc h2,h1,ay]
 repeat' split
 all_goals first
  |(simp only[Utf8.runeError];omega)
  |(simp only[aj,gk,OF,ge_iff_le]at *;omega)
theorem Hy {c:Nat}(h:128<=c):sign c=false:=by
 unfold sign;simp;omega
theorem JX (h:bK E):m_ E 4 false (.bool true) (.bool true)=some true:=by unfold m_;rw[h.tR];rfl
theorem Vv (h:bK E):m_ E 4 false (.bool false) (.bool true)=some false:=by unfold m_;rw[h.tR];rfl
theorem b_xF (h:bK E) {s:bH}{k:Nat}{P:Nat->Bool}(hsm:s.length<=4294967296)(hP:∀(Z:Sg) (r:Nat),aB E k [.int .i32 (r:Int)] Z λu Y=>Y=Z/\u=.bool (P r))(hhi:∀r,128<=r->P r=true):aB E 317 [.str s,.fn k [] [],.bool true] Z λv Y=>Y=Z/\∃n:Int,v=.int .i64 n/\decide (0<=n)=s.any P:=by
 have ef:=rV (E:=E) (k:=k) (caps:=[]) (λ_ h=>by cases h) Z
 rw[aI h.Zc h.WA h.Z3 h.Yj (args':=[.str s,.fn k [] [],.bool true]) (by simp only[aW,dM,ef,show aT Z E.ty true (.bool true)=some (.bool true) from rfl]),aY (by kernel_rfl)]
 simp only[aA,Tryz.f317,KP,↓reduceIte,reduceLT,reduceAdd,reduceCtorEq,reduceNeg,h.c_,pL]
 refine aS (λi F Y=>Y=[.IY s i]/\F.get 1=.fn k [] []/\F.get 2=.bool true/\F.get 10=.ref 0 0/\∀j y,j<i->s[j]?=some y->P y=false) s.length ?_ ?_ s.length 0 _ _ (by omega) ⟨rfl,(fJ (by simp +decide only[GS,ag]) (λj y hj=>by omega))⟩
 ·rintro i F Y hi ⟨rfl,g1,g2,g10,hp⟩ next
  obtain⟨x,hx⟩:∃x,s[i]?=some x:=⟨_,BY hi⟩
  rw[aC]
  by_cases h128:x<128
  ·simp only[KP,↓reduceIte,reduceEqDiff,reduceLT,reduceNeg,g1,g10,vZ,hx,h128]
   refine aP (hP _ x) ?_
   rintro u Y ⟨rfl,rfl⟩
   by_cases hxs:P x=true
   ·simp only[KP,↓reduceIte,reduceEqDiff,reduceLT,reduceNeg,g2,hxs,JX h]
    exact⟨_,rfl,by rw[show s.any P=true from fc.2 ⟨x,aa hx,hxs⟩];exact AT (by omega)⟩
   ·have hxs:P x=false:=by simpa using hxs
    simp only[KP,↓reduceIte,reduceEqDiff,reduceLT,reduceNeg,g2,hxs,Vv h]
    refine next _ _ ⟨rfl,(fJ (by simp +decide only[GS,g1,g2,g10,ag]) (λj y hj hy=>?_))⟩
    rcases bz j i with g | g
    ·exact hp j y g hy
    ·obtain rfl:j=i:=by omega
     rw[hx]at hy;cases hy;exact hxs
  have hany:s.any P=true:=fc.2 ⟨x,aa hx,hhi x (by omega)⟩
  by_cases h256:x<256
  ·simp only[KP,↓reduceIte,reduceEqDiff,reduceLT,reduceNeg,g1,g10,vZ,hx,h128,h256]
   refine aP (hP _ (Utf8.decode (rS s) i).1) ?_
   rintro u Y ⟨rfl,rfl⟩
   have hxs:=hhi _ (Rt hx h128 h256)
   simp only[KP,↓reduceIte,reduceEqDiff,reduceLT,reduceNeg,g2,hxs,JX h]
   exact⟨_,rfl,by rw[hany];exact AT (by omega)⟩
  ·simp only[KP,↓reduceIte,reduceEqDiff,reduceLT,reduceNeg,g1,g10,vZ,hx,h128,h256]
   refine aP (hP _ 65533) ?_
   rintro u Y ⟨rfl,rfl⟩
   have hxs:=hhi _ (show 128<=65533 by omega)
   simp only[KP,↓reduceIte,reduceEqDiff,reduceLT,reduceNeg,g2,hxs,JX h]
   exact⟨_,rfl,by rw[hany];exact AT (by omega)⟩
 ·rintro F Y ⟨rfl,g1,g2,g10,hp⟩
  have hx:s[s.length]?=none:=gv (ae _)
  rw[aC]
  simp only[KP,↓reduceIte,reduceLT,reduceNeg,g10,vZ,hx]
  refine⟨-1,rfl,?_⟩
  rw[show s.any P=false from mu.2 λx hx=>by
   obtain⟨j,hj,e⟩:=ez hx
   rw[hp j x hj (by rw[BY hj,e])];simp]
  rfl
theorem VY (h:bK E) {s:bH}{k:Nat}{P:Nat->Bool}(hsm:s.length<=4294967296)(hP:∀(Z:Sg) (r:Nat),aB E k [.int .i32 (r:Int)] Z λu Y=>Y=Z/\u=.bool (P r))(hhi:∀r,128<=r->P r=true):aB E 296 [.str s,.fn k [] []] Z λv Y=>Y=Z/\∃n:Int,v=.int .i64 n/\decide (0<=n)=s.any P:=by
 have ef:=rV (E:=E) (k:=k) (caps:=[]) (λ_ h=>by cases h) Z
 rw[aI h.Zd h.WC h.Z4 h.Yk (args':=[.str s,.fn k [] []]) (by simp only[aW,dM,ef]),aY (by kernel_rfl)]
 simp only[aA,Tryz.f296,KP,↓reduceIte,reduceEqDiff,reduceLT,reduceAdd,reduceCtorEq]
 refine aP (b_xF h hsm hP hhi) ?_
 rintro v Y ⟨rfl,n,rfl,hn⟩
 simp only[KP,↓reduceIte,reduceLT]
 exact⟨n,rfl,hn⟩
theorem Tm (h:bK E) {s:bH}{k:Nat}{P:Nat->Bool}(hsm:s.length<=4294967296)(hP:∀(Z:Sg) (r:Nat),aB E k [.int .i32 (r:Int)] Z λu Y=>Y=Z/\u=.bool (P r))(hhi:∀r,128<=r->P r=true):aB E 260 [.str s,.fn k [] []] Z K=K (.bool (s.any P)) Z:=by
 refine aB.of ?_
 have ef:=rV (E:=E) (k:=k) (caps:=[]) (λ_ h=>by cases h) Z
 rw[aI h.Zg h.WG h.Z7 h.Yn (args':=[.str s,.fn k [] []]) (by simp only[aW,dM,ef]),aY (by kernel_rfl)]
 simp only[aA,Tryz.f260,KP,↓reduceIte,reduceEqDiff,reduceLT,reduceAdd,reduceCtorEq]
 refine aP (VY h hsm hP hhi) ?_
 rintro v Y ⟨rfl,n,rfl,hn⟩
 simp only[KP,↓reduceIte,reduceLT,hn]
 exact rfl
theorem abo (h:bK E) {p:bH}(hsm:p.length<=4294967296):aB E 233 [.str p] Z K=K (.bool (!rZ p)) Z:=by
 refine aB.of ?_
 rw[aI h.Zi h.WI h.Z9 h.Yp (args':=[.str p]) (by simp only[aW,dM]),aY (by kernel_rfl)]
 by_cases h1:p=[]
 ·have q1:=iS h1
  simp only[aA,Tryz.f233,KP,↓reduceIte,reduceEqDiff,reduceLT,reduceCtorEq,lN,q1]
  rw[Ag (.inl h1)]
  exact rfl
 have q1:=gU h1
 by_cases h2:p=[46]
 ·have q2:=iS h2
  simp only[aA,Tryz.f233,KP,↓reduceIte,reduceEqDiff,reduceLT,reduceCtorEq,lN,M8,q1,q2]
  rw[Ag (.inr (.inl h2))]
  exact rfl
 have q2:=gU h2
 by_cases h3:p=[46,46]
 ·have q3:=iS h3
  simp only[aA,Tryz.f233,KP,↓reduceIte,reduceEqDiff,reduceLT,reduceCtorEq,lN,M8,S4,q1,q2,q3]
  rw[Ag (.inr (.inr h3))]
  exact rfl
 have q3:=gU h3
 have kc:=λ(Y:Sg)=>cU (λK=>Tm (Z:=Y) (K:=K) (s:=p) (k:=261) (P:=λc=>!sign c) h hsm (λY r=>by rw[Nn h];exact⟨rfl,rfl⟩) (λr hr=>by rw[Hy hr];rfl))
 simp only[aA,Tryz.f233,KP,↓reduceIte,reduceEqDiff,reduceLT,reduceCtorEq,lN,M8,S4,q1,q2,q3,kc]
 rw[Jy h1 h2 h3,kg]
 exact rfl
theorem Ar:∀l:List bH,dZ aQ.P (l.map λp=>[V.str p]) l
 | []=>.nil
 |_::l=>.cons rfl (Ar l)
theorem Qq (h:bK E) {s:bH}(hsm:s.length<=1000000000):aB E 232 [.str s] Z λv Y=>Y=Z/\jG aQ v (cO 47 s):=by
 rw[aI h.Zj h.WJ h.Z_ h.Yq (args':=[.str s]) (by simp only[aW,dM]),aY (by kernel_rfl)]
 have hs:lQ [.str s,.str [47]]=some (.bS false ((cO 47 s).map λp=>[V.str p]) true):=by
  unfold lQ
  exact bf (by omega)
 have iv:jG aQ (.bS false ((cO 47 s).map λp=>[V.str p]) true) (cO 47 s):=.inr ⟨_,_,rfl,Ar _⟩
 have h5:∀Z,cG Z E.ty false (.bS false ((cO 47 s).map λp=>[V.str p]) true)=some (.bS false ((cO 47 s).map λp=>[V.str p]) true):=λZ=>(show cG Z E.ty false (.bS false ((cO 47 s).map λp=>[V.str p]) true)=aT Z E.ty false (.bS false ((cO 47 s).map λp=>[V.str p]) true) from rfl).trans (cN iv.is.bF iv.tag)
 have kc:=λ(Y:Sg)=>cU (λK=>tU (Z:=Y) (K:=K) (args:=[.str s,.str [47]]) (args':=[.str s,.str [47]]) h.Zv h.WW (by simp only[aW,dM]) hs (h5 []))
 have hb:Ax.bytes ⟨#[47]⟩=[47]:=rfl
 simp only[aA,Tryz.f232,KP,↓reduceIte,reduceLT,reduceCtorEq,kc,h5,hb]
 exact iv
theorem FY {s:bH}(h:¬ s.length<=40):bN s=false:=by unfold bN;rw[AS h];simp
theorem qE {s:bH}(h:pG s=true):bN s=false:=by unfold bN;rw[h];rfl
theorem abp (h:bK E) {s:bH}:aB E 193 [.str s] Z K=K (.bool (bN s)) Z:=by
 refine aB.of ?_
 rw[aI h.Zs h.WT h.aai h.Yz (args':=[.str s]) (by simp only[aW,dM]),aY (by kernel_rfl)]
 by_cases w0:s=[114,117,108,101]
 ·have e0:=iS w0
  simp only[aA,Tryz.f193,KP,↓reduceIte,reduceLT,reduceCtorEq,Dz,e0]
  rw[qE (by rw[w0];rfl)]
  exact rfl
 have e0:=gU w0
 by_cases w1:s=[105,110]
 ·have e1:=iS w1
  simp only[aA,Tryz.f193,KP,↓reduceIte,reduceEqDiff,reduceLT,reduceCtorEq,Dz,Gn,e0,e1]
  rw[qE (by rw[w1];rfl)]
  exact rfl
 have e1:=gU w1
 by_cases w2:s=[111,117,116]
 ·have e2:=iS w2
  simp only[aA,Tryz.f193,KP,↓reduceIte,reduceEqDiff,reduceLT,reduceCtorEq,Dz,Gn,J0,e0,e1,e2]
  rw[qE (by rw[w2];rfl)]
  exact rfl
 have e2:=gU w2
 by_cases w3:s=[97,102,116,101,114]
 ·have e3:=iS w3
  simp only[aA,Tryz.f193,KP,↓reduceIte,reduceEqDiff,reduceLT,reduceCtorEq,Dz,Gn,J0,P5,e0,e1,e2,e3]
  rw[qE (by rw[w3];rfl)]
  exact rfl
 have e3:=gU w3
 by_cases h40:s.length<=40
 case neg=>
  have q1:decide ((s.length:Int)<=40)=false:=AS (by omega)
  rw[FY h40]
  simp only[aA,Tryz.f193,KP,↓reduceIte,reduceEqDiff,reduceLT,reduceCtorEq,gC h,Dz,Gn,J0,P5,e0,e1,e2,e3,q1]
  exact rfl
 have q1:decide ((s.length:Int)<=40)=true:=AT (by omega)
 have hr:pG s=false:=by unfold pG;rw[AS w0,AS w1,AS w2,AS w3];rfl
 rw[Pa hr h40]
 simp only[aA,Tryz.f193,KP,↓reduceIte,reduceEqDiff,reduceLT,reduceCtorEq,gC h,Dz,Gn,J0,P5,e0,e1,e2,e3,q1]
 refine aP (Qq h (by omega)) ?_
 rintro v σ' ⟨rfl,hv⟩
 have hPl:=rU 47 s
 have hPp:=tZ (s:=s) rfl
 generalize cO 47 s=P at *
 have kc:=λ(Y:Sg)=>Ls (Z:=Y) (k:=233) (caps:=[]) (P:=λp=>!rZ p) h (hv.is.ls Y 9) (by omega) (λ_ h=>by cases h) (λy v hy hv=>by
  subst hv
  have:=hPp y hy
  show aB E 233 [.str y] [] _
  rw[abo h (by omega)];exact⟨rfl,rfl⟩)
 simp only[KP,↓reduceIte,reduceEqDiff,reduceLT,kc]
 rw[<- kg,Bool.not_not]
 exact rfl
theorem Y9 (h:bK E) {s:bH}:KC E 193 [.str s] Z (.bool (bN s)) Z:=cU λ_=>abp h
end
end
section
section
variable {E:Env}{Z:Sg}{K:V->Sg->Prop}
theorem Qo (h:bK E) {p:Int}:aB E 177 [.int .i64 p] Z K=K (.gR [.int .i64 ((counts p).1:Nat),.int .i64 ((counts p).2.1:Nat),.int .i64 ((counts p).2.2:Nat)]) Z:=by
 refine aB.of ?_
 rw[aI h.Zx h.WY h.aam h.YD (args':=[.int .i64 p]) (by simp only[aW,show aT Z E.ty true (.int .i64 p)=some (.int .i64 p) from rfl]),aY (by kernel_rfl)]
 by_cases p5:p=5
 ·have q5:decide (p=5)=true:=AT p5
  simp only[aA,Tryz.f177,KP,↓reduceIte,reduceEqDiff,reduceLT,reduceCtorEq,q5]
  rw[p5]
  exact rfl
 have q5:decide (p=5)=false:=AS p5
 by_cases p6:p=6
 ·have q6:decide (p=6)=true:=AT p6
  simp only[aA,Tryz.f177,KP,↓reduceIte,reduceEqDiff,reduceLT,reduceCtorEq,q5,q6]
  rw[p6]
  exact rfl
 have q6:decide (p=6)=false:=AS p6
 by_cases p7:p=7
 ·have q7:decide (p=7)=true:=AT p7
  simp only[aA,Tryz.f177,KP,↓reduceIte,reduceEqDiff,reduceLT,reduceCtorEq,q5,q6,q7]
  rw[p7]
  exact rfl
 have q7:decide (p=7)=false:=AS p7
 by_cases p8:p=8
 ·have q8:decide (p=8)=true:=AT p8
  simp only[aA,Tryz.f177,KP,↓reduceIte,reduceEqDiff,reduceLT,reduceCtorEq,q5,q6,q7,q8]
  rw[p8]
  exact rfl
 have q8:decide (p=8)=false:=AS p8
 have e:counts p=(1,1,0):=by unfold counts;rw[az p5,az p6,az p7,az p8]
 rw[e]
 simp only[aA,Tryz.f177,KP,↓reduceIte,reduceEqDiff,reduceLT,reduceCtorEq,q5,q6,q7,q8]
 exact rfl
theorem PD (h:bK E) {p:Int}:KC E 177 [.int .i64 p] Z (.gR [.int .i64 ((counts p).1:Nat),.int .i64 ((counts p).2.1:Nat),.int .i64 ((counts p).2.2:Nat)]) Z:=cU λ_=>Qo h
theorem Np (h:bK E) {s:bH}:aB E 178 [.str s] Z K=K (.bool (decide (100<s.length))) Z:=by
 refine aB.of ?_
 rw[aI h.Zw h.WX h.aal h.YC (args':=[.str s]) (by simp only[aW,dM]),aY (by kernel_rfl)]
 simp only[aA,Tryz.f178,KP,↓reduceIte,reduceLT,reduceCtorEq,gC h]
 rw[show decide ((100:Int)<(s.length:Int))=decide (100<s.length) from by rw[me];omega]
 exact rfl
theorem HF {x:AxS.Step}:cM x=true ↔ ((1<=x.op/\x.op<=9)/\((counts x.op).1<=x.args.length/\x.args.length<=(counts x.op).2.1))/\x.lits.length=(counts x.op).2.2/\(x.lits.any λl=>decide (100<l.length))=false/\(x.op=8->x.lits.head?≠some [])/\(0<=x.n/\x.n<=2000)/\(x.op=9\/x.n=0):=by
 have e:x.lits.all (λl=>decide (l.length<=100)) = !(x.lits.any λl=>decide (100<l.length)):=by
  rw[List.not_any_eq_all_not]
  congr 1
  funext l
  rw[<- decide_not,me]
  omega
 unfold cM
 rw[e]
 simp only[aj,OF,and_assoc,gu]
theorem rA {x:AxS.Step}(h:¬ (cM x=true)):cM x=false:=by simpa using h
theorem Nk (h:bK E) {v:V}{x:AxS.Step}(hv:NA v x)(hsm:x.lits.length<=4294967296):aB E 144 [v] Z K=K (.bool (cM x)) Z:=by
 refine aB.of ?_
 have ev:=hv.snap (E:=E) Z
 obtain⟨a,b,rfl,ia,ib⟩:=hv
 have hoka:a.aZ=true:=aN ia.bF
 have hokb:b.aZ=true:=aN ib.bF
 rw[aI h.ZG h.Xa h.aau h.YL (args':=[.agg [.str x.out,.int .i64 x.op,a,b,.int .i64 x.n]]) (by simp only[aW,ev]),aY (by kernel_rfl)]
 have la:=bU h ia
 have lb:=bU h ib
 have hm:=HF (x:=x)
 have kc:=λ(Y:Sg)=>PD (Z:=Y) h (p:=x.op)
 have kl:=λ(Y:Sg)=>Ls (Z:=Y) (k:=178) (caps:=[]) (P:=λl=>decide (100<l.length)) h (ib.ls Y 9) hsm (λ_ h=>by cases h) (λy v hy hv=>by
  subst hv
  show aB E 178 [.str y] [] _
  rw[Np h];exact⟨rfl,rfl⟩)
 have h8:x.op=8->(counts x.op).2.2=2:=λe=>by rw[e];rfl
 generalize (counts x.op).1=A at *
 generalize (counts x.op).2.1=B at *
 generalize (counts x.op).2.2=C at *
 by_cases p1:1<=x.op
 case neg=>
  have q1:decide (x.op<1)=true:=AT (by omega)
  rw[rA (mt hm.1 λhh=>by omega)]
  simp only[aA,Tryz.f144,KP,Ax.loadAt,↓reduceIte,reduceEqDiff,reduceLT,reduceAdd,reduceCtorEq,h.nQ,h.bR,kc,hoka,hokb,q1]
  exact rfl
 have q1:decide (x.op<1)=false:=AS (by omega)
 by_cases p2:x.op<=9
 case neg=>
  have q2:decide ((9:Int)<x.op)=true:=AT (by omega)
  rw[rA (mt hm.1 λhh=>by omega)]
  simp only[aA,Tryz.f144,KP,Ax.loadAt,↓reduceIte,reduceEqDiff,reduceLT,reduceAdd,reduceCtorEq,h.nQ,h.bR,kc,hoka,hokb,q1,q2]
  exact rfl
 have q2:decide ((9:Int)<x.op)=false:=AS (by omega)
 by_cases p3:A<=x.args.length
 case neg=>
  have q3:decide ((x.args.length:Int)<(A:Int))=true:=AT (by omega)
  rw[rA (mt hm.1 λhh=>by omega)]
  simp only[aA,Tryz.f144,KP,Ax.loadAt,↓reduceIte,reduceEqDiff,reduceLT,reduceAdd,reduceCtorEq,h.nQ,h.bC,h.bR,kc,la,hoka,hokb,q1,q2,q3]
  exact rfl
 have q3:decide ((x.args.length:Int)<(A:Int))=false:=AS (by omega)
 by_cases p4:x.args.length<=B
 case neg=>
  have q4:decide ((B:Int)<(x.args.length:Int))=true:=AT (by omega)
  rw[rA (mt hm.1 λhh=>by omega)]
  simp only[aA,Tryz.f144,KP,Ax.loadAt,↓reduceIte,reduceEqDiff,reduceLT,reduceAdd,reduceCtorEq,h.nQ,h.bC,h.bR,kc,la,hoka,hokb,q1,q2,q3,q4]
  exact rfl
 have q4:decide ((B:Int)<(x.args.length:Int))=false:=AS (by omega)
 by_cases p5:x.lits.length=C
 case neg=>
  have q5:decide ((x.lits.length:Int)=(C:Int))=false:=AS (by omega)
  rw[rA (mt hm.1 λhh=>by omega)]
  simp only[aA,Tryz.f144,KP,Ax.loadAt,↓reduceIte,reduceEqDiff,reduceLT,reduceAdd,reduceCtorEq,h.nQ,h.bC,h.bR,kc,la,lb,hoka,hokb,q1,q2,q3,q4,q5]
  exact rfl
 have q5:decide ((x.lits.length:Int)=(C:Int))=true:=AT (by omega)
 by_cases p6:(x.lits.any λl=>decide (100<l.length))=true
 ·rw[rA (mt hm.1 λhh=>by rw[p6]at hh;simp at hh)]
  simp only[aA,Tryz.f144,KP,Ax.loadAt,↓reduceIte,reduceEqDiff,reduceLT,reduceAdd,reduceCtorEq,h.nQ,h.bC,h.bR,kc,kl,la,lb,hoka,hokb,q1,q2,q3,q4,q5,p6]
  exact rfl
 have q6:(x.lits.any λl=>decide (100<l.length))=false:=by simpa using p6
 by_cases p8:x.op=8
 ·have q8:decide (x.op=8)=true:=AT p8
  have hC:=h8 p8
  obtain⟨y,r,hyr⟩:=nj (show x.lits≠[] from λe=>by rw[e]at p5;simp at p5;omega)
  obtain⟨g,e1⟩:=g_ h ib (i:=0) (x:=y) (by rw[hyr];rfl)
  have e1:indexAddr E 24 b (.int .i64 0)=some (.cL g [.str y]):=e1
  by_cases hy:y=[]
  ·have e2:=iS hy
   rw[rA (mt hm.1 λhh=>hh.2.2.2.1 p8 (by rw[hyr,hy];rfl))]
   simp only[aA,Tryz.f144,KP,Ax.loadAt,↓reduceIte,reduceEqDiff,reduceLT,reduceAdd,reduceCtorEq,h.nQ,h.c_,h.bC,h.bR,lN,kc,kl,la,lb,hoka,hokb,q1,q2,q3,q4,q5,q6,q8,e1,e2]
   exact rfl
  have e2:=gU hy
  have hh8:x.op=8->x.lits.head?≠some []:=λ_=>by rw[hyr];simpa using hy
  by_cases p9:0<=x.n
  case neg=>
   have q9:decide (x.n<0)=true:=AT (by omega)
   rw[rA (mt hm.1 λhh=>by omega)]
   simp only[aA,Tryz.f144,KP,Ax.loadAt,↓reduceIte,reduceEqDiff,reduceLT,reduceAdd,reduceCtorEq,h.nQ,h.c_,h.bC,h.bR,lN,kc,kl,la,lb,hoka,hokb,q1,q2,q3,q4,q5,q6,q8,e1,e2,q9]
   exact rfl
  have q9:decide (x.n<0)=false:=AS (by omega)
  by_cases p10:x.n<=2000
  case neg=>
   have CH:decide ((2000:Int)<x.n)=true:=AT (by omega)
   rw[rA (mt hm.1 λhh=>by omega)]
   simp only[aA,Tryz.f144,KP,Ax.loadAt,↓reduceIte,reduceEqDiff,reduceLT,reduceAdd,reduceCtorEq,h.nQ,h.c_,h.bC,h.bR,lN,kc,kl,la,lb,hoka,hokb,q1,q2,q3,q4,q5,q6,q8,e1,e2,q9,CH]
   exact rfl
  have CH:decide ((2000:Int)<x.n)=false:=AS (by omega)
  by_cases p11:x.op=9
  ·have I0:decide (x.op=9)=true:=AT p11
   rw[hm.2 ⟨⟨⟨p1,p2⟩,p3,p4⟩,p5,q6,hh8,⟨p9,p10⟩,.inl p11⟩]
   simp only[aA,Tryz.f144,KP,Ax.loadAt,↓reduceIte,reduceEqDiff,reduceLT,reduceAdd,reduceCtorEq,h.nQ,h.c_,h.bC,h.bR,lN,kc,kl,la,lb,hoka,hokb,q1,q2,q3,q4,q5,q6,q8,e1,e2,q9,CH,I0]
   exact rfl
  have I0:decide (x.op=9)=false:=AS p11
  by_cases p12:x.n=0
  case neg=>
   have K1:decide (x.n=0)=false:=AS (by omega)
   rw[rA (mt hm.1 λhh=>by omega)]
   simp only[aA,Tryz.f144,KP,Ax.loadAt,↓reduceIte,reduceEqDiff,reduceLT,reduceAdd,reduceCtorEq,h.nQ,h.c_,h.bC,h.bR,lN,kc,kl,la,lb,hoka,hokb,q1,q2,q3,q4,q5,q6,q8,e1,e2,q9,CH,I0,K1]
   exact rfl
  have K1:decide (x.n=0)=true:=AT (by omega)
  rw[hm.2 ⟨⟨⟨p1,p2⟩,p3,p4⟩,p5,q6,hh8,⟨p9,p10⟩,.inr p12⟩]
  simp only[aA,Tryz.f144,KP,Ax.loadAt,↓reduceIte,reduceEqDiff,reduceLT,reduceAdd,reduceCtorEq,h.nQ,h.c_,h.bC,h.bR,lN,kc,kl,la,lb,hoka,hokb,q1,q2,q3,q4,q5,q6,q8,e1,e2,q9,CH,I0,K1]
  exact rfl
 ·have q8:decide (x.op=8)=false:=AS p8
  have hh8:x.op=8->x.lits.head?≠some []:=λe=>absurd e p8
  by_cases p9:0<=x.n
  case neg=>
   have q9:decide (x.n<0)=true:=AT (by omega)
   rw[rA (mt hm.1 λhh=>by omega)]
   simp only[aA,Tryz.f144,KP,Ax.loadAt,↓reduceIte,reduceEqDiff,reduceLT,reduceAdd,reduceCtorEq,h.nQ,h.bC,h.bR,kc,kl,la,lb,hoka,hokb,q1,q2,q3,q4,q5,q6,q8,q9]
   exact rfl
  have q9:decide (x.n<0)=false:=AS (by omega)
  by_cases p10:x.n<=2000
  case neg=>
   have CH:decide ((2000:Int)<x.n)=true:=AT (by omega)
   rw[rA (mt hm.1 λhh=>by omega)]
   simp only[aA,Tryz.f144,KP,Ax.loadAt,↓reduceIte,reduceEqDiff,reduceLT,reduceAdd,reduceCtorEq,h.nQ,h.bC,h.bR,kc,kl,la,lb,hoka,hokb,q1,q2,q3,q4,q5,q6,q8,q9,CH]
   exact rfl
  have CH:decide ((2000:Int)<x.n)=false:=AS (by omega)
  by_cases p11:x.op=9
  ·have I0:decide (x.op=9)=true:=AT p11
   rw[hm.2 ⟨⟨⟨p1,p2⟩,p3,p4⟩,p5,q6,hh8,⟨p9,p10⟩,.inl p11⟩]
   simp only[aA,Tryz.f144,KP,Ax.loadAt,↓reduceIte,reduceEqDiff,reduceLT,reduceAdd,reduceCtorEq,h.nQ,h.bC,h.bR,kc,kl,la,lb,hoka,hokb,q1,q2,q3,q4,q5,q6,q8,q9,CH,I0]
   exact rfl
  have I0:decide (x.op=9)=false:=AS p11
  by_cases p12:x.n=0
  case neg=>
   have K1:decide (x.n=0)=false:=AS (by omega)
   rw[rA (mt hm.1 λhh=>by omega)]
   simp only[aA,Tryz.f144,KP,Ax.loadAt,↓reduceIte,reduceEqDiff,reduceLT,reduceAdd,reduceCtorEq,h.nQ,h.bC,h.bR,kc,kl,la,lb,hoka,hokb,q1,q2,q3,q4,q5,q6,q8,q9,CH,I0,K1]
   exact rfl
  have K1:decide (x.n=0)=true:=AT (by omega)
  rw[hm.2 ⟨⟨⟨p1,p2⟩,p3,p4⟩,p5,q6,hh8,⟨p9,p10⟩,.inr p12⟩]
  simp only[aA,Tryz.f144,KP,Ax.loadAt,↓reduceIte,reduceEqDiff,reduceLT,reduceAdd,reduceCtorEq,h.nQ,h.bC,h.bR,kc,kl,la,lb,hoka,hokb,q1,q2,q3,q4,q5,q6,q8,q9,CH,I0,K1]
  exact rfl
theorem ML (h:bK E) {v:V}{x:AxS.Step}(hv:NA v x)(hsm:x.lits.length<=4294967296):KC E 144 [v] Z (.bool (cM x)) Z:=cU λ_=>Nk h hv hsm
end
end
section
section
variable {E:Env}{Z:Sg}{K:V->Sg->Prop}
theorem Fg (h:bK E) {s:bH}:aB E 206 [.str s] Z K=K (.bool (!bN s)) Z:=by
 refine aB.of ?_
 rw[aI h.Zr h.WS h.aah h.Yy (args':=[.str s]) (by simp only[aW,dM]),aY (by kernel_rfl)]
 have kc:=λ(Y:Sg)=>Y9 (Z:=Y) h (s:=s)
 simp only[aA,Tryz.f206,KP,↓reduceIte,reduceLT,reduceCtorEq,kc]
 exact rfl
theorem EX (h:bK E) {s:bH}:KC E 206 [.str s] Z (.bool (!bN s)) Z:=cU λ_=>Fg h
theorem BP (h:bK E) {a:V}{l:List bH}(ha:LS aQ 9 Z a l)(hsm:l.length<=4294967296):KC E 76 [a,.fn 206 [] []] Z (.bool (!(l.all bN))) Z:=cU λ_=>by rw[kg];exact LQ (k:=206) (caps:=[]) (P:=λs=>!bN s) h ha hsm (λ_ h=>by cases h) (λy v hy hv=>by subst hv;show aB E 206 [.str y] [] _;rw[Fg h];exact⟨rfl,rfl⟩)
def Mc (s:AxS.Step):Bool:=bN s.out&&s.args.all bN&&cM s
theorem Tf (h:bK E) {v:V}{x:AxS.Step}(hv:NA v x)(h1:x.args.length<=4294967296)(h2:x.lits.length<=4294967296):aB E 208 [v] Z K=K (.bool (!Mc x)) Z:=by
 refine aB.of ?_
 have ev:=hv.snap (E:=E) Z
 obtain⟨a,b,rfl,ia,ib⟩:=hv
 have hoka:a.aZ=true:=aN ia.bF
 have hokb:b.aZ=true:=aN ib.bF
 rw[aI h.Zp h.WQ h.aaf h.Yw (args':=[.agg [.str x.out,.int .i64 x.op,a,b,.int .i64 x.n]]) (by simp only[aW,ev]),aY (by kernel_rfl)]
 have k1:=λ(Y:Sg)=>EX (Z:=Y) h (s:=x.out)
 have k2:=λ(Y:Sg)=>BP (Z:=Y) h (ia.ls Y 9) h1
 have k3:=λ(Y:Sg)=>ML (Z:=Y) h (v:=.agg [.str x.out,.int .i64 x.op,a,b,.int .i64 x.n]) ⟨a,b,rfl,ia,ib⟩ h2
 unfold Mc
 cases e1:bN x.out with
 |false=>
  simp only[aA,Tryz.f208,KP,Ax.loadAt,↓reduceIte,reduceEqDiff,reduceLT,reduceAdd,reduceCtorEq,h.c_,h.bR,hoka,hokb,k1,e1]
  exact rfl
 |true=>
  cases e2:x.args.all bN with
  |false=>
   simp only[aA,Tryz.f208,KP,Ax.loadAt,↓reduceIte,reduceEqDiff,reduceLT,reduceAdd,reduceCtorEq,h.c_,h.bC,h.bR,hoka,hokb,k1,k2,e1,e2]
   exact rfl
  |true=>
   simp only[aA,Tryz.f208,KP,Ax.loadAt,↓reduceIte,reduceEqDiff,reduceLT,reduceAdd,reduceCtorEq,h.c_,h.bC,h.bR,hoka,hokb,k1,k2,k3,e1,e2]
   exact rfl
theorem E3 (r:aD):kT r=(bN r.name&&decide (r.outs≠[])&&r.ins.all bN&&r.outs.all bN&&r.after.all bN&&r.steps.all Mc):=rfl
theorem Te (h:bK E) {v:V}{x:aD}(hv:IP v x)(hs:Small x):aB E 175 [v] Z K=K (.bool (kT x)) Z:=by
 refine aB.of ?_
 have ev:=hv.snap (E:=E) Z
 obtain⟨a,b,c,d,rfl,ia,ib,ic,id⟩:=hv
 have o1:=aN ia.bF
 have o2:=aN ib.bF
 have o3:=aN ic.bF
 have o4:=aN id.bF
 have l1:=hs.ins
 have l2:=hs.outs
 have l3:=hs.after
 have l4:=hs.steps
 rw[aI h.Zz h.W4 h.aao h.YF (args':=[.agg [.str x.name,a,b,c,d]]) (by simp only[aW,ev]),aY (by kernel_rfl)]
 have lb:=bU h ib
 have kn:=λ(Y:Sg)=>EX (Z:=Y) h (s:=x.name)
 have k1:=λ(Y:Sg)=>BP (Z:=Y) h (ia.ls Y 9) (by omega)
 have k2:=λ(Y:Sg)=>BP (Z:=Y) h (ib.ls Y 9) (by omega)
 have k3:=λ(Y:Sg)=>BP (Z:=Y) h (ic.ls Y 9) (by omega)
 have k4:=λ(Y:Sg)=>MS (Z:=Y) (k:=208) (caps:=[]) (P:=λs=>!Mc s) h (id.ls Y 113) (by omega) (λ_ h=>by cases h) (λy v hy hv=>by
  have hy1:=hs.args y hy
  have hy2:=hs.lits y hy
  show aB E 208 [v] [] _
  rw[Tf h hv (by omega) (by omega)];exact⟨rfl,rfl⟩)
 rw[E3]
 cases e0:bN x.name with
 |false=>
  simp only[aA,Tryz.f175,KP,Ax.loadAt,↓reduceIte,reduceEqDiff,reduceLT,reduceAdd,reduceCtorEq,h.c_,h.bM,o1,o2,o3,o4,kn,e0]
  exact rfl
 |true=>
 by_cases h0:x.outs=[]
 ·have q0:decide ((x.outs.length:Int)=0)=true:=AT (by rw[h0];rfl)
  simp only[aA,Tryz.f175,KP,Ax.loadAt,↓reduceIte,reduceEqDiff,reduceLT,reduceAdd,reduceCtorEq,h.c_,h.bC,h.bM,o1,o2,o3,o4,kn,e0,lb,q0]
  rw[h0]
  exact rfl
 have q0:decide ((x.outs.length:Int)=0)=false:=AS (by have:=jd.2 h0;omega)
 rw[show decide (x.outs≠[])=true from AT h0]
 have hf:Ax.fill (λj=>some (j*1,1)) (fR 3 [V.aF]) [(0,a),(1,b),(2,c)]=some [a,b,c]:=by
  rcases ia with⟨rfl,-⟩ | ⟨_,_,_,rfl,-⟩ <;> rcases ib with⟨rfl,-⟩ | ⟨_,_,_,rfl,-⟩ <;> rcases ic with⟨rfl,-⟩ | ⟨_,_,_,rfl,-⟩ <;> rfl
 have lz:∀Z,lenOf E Z 40 (.sl 1 0 3 none)=some 3:=λZ=>by unfold lenOf;rw[h.NQ]
 have i0:indexAddr E 40 (.sl 1 0 3 none) (.int .i64 0)=some (.ref 1 0):=by unfold Ax.indexAddr;simp only[h.NQ,h.bC];rfl
 have i1:indexAddr E 40 (.sl 1 0 3 none) (.int .i64 1)=some (.ref 1 1):=by unfold Ax.indexAddr;simp only[h.NQ,h.bC];rfl
 have i2:indexAddr E 40 (.sl 1 0 3 none) (.int .i64 2)=some (.ref 1 2):=by unfold Ax.indexAddr;simp only[h.NQ,h.bC];rfl
 have d0:decide ((0:Int)<((3:Nat):Int))=true:=rfl
 have d1:decide ((1:Int)<((3:Nat):Int))=true:=rfl
 have d2:decide ((2:Int)<((3:Nat):Int))=true:=rfl
 have d3:decide ((3:Int)<((3:Nat):Int))=false:=rfl
 have w1:wr .i64 1=1:=rfl
 have w2:wr .i64 2=2:=rfl
 have w3:wr .i64 3=3:=rfl
 simp only[aA,Tryz.f175,KP,Ax.loadAt,↓reduceIte,reduceEqDiff,reduceLT,reduceLeDiff,reduceAdd,reduceMul,reduceCtorEq,h.c_,h.bC,h.NQ,h.bM,o1,o2,o3,o4,kn,e0,lb,q0,hf,lz]
 rw[aC]
 cases e1:x.ins.all bN with
 |false=>
  simp only[KP,Ax.loadAt,↓reduceIte,reduceEqDiff,reduceLT,h.bC,k1,e1,i0,d0]
  exact rfl
 |true=>
 simp only[KP,Ax.loadAt,↓reduceIte,reduceEqDiff,reduceLT,Int.reduceAdd,h.bC,k1,e1,w1,i0,d0]
 rw[aC]
 cases e2:x.outs.all bN with
 |false=>
  simp only[KP,Ax.loadAt,↓reduceIte,reduceEqDiff,reduceLT,h.bC,k2,e2,i1,d1]
  exact rfl
 |true=>
 simp only[KP,Ax.loadAt,↓reduceIte,reduceEqDiff,reduceLT,Int.reduceAdd,h.bC,k2,e2,w2,i1,d1]
 rw[aC]
 cases e3:x.after.all bN with
 |false=>
  simp only[KP,Ax.loadAt,↓reduceIte,reduceEqDiff,reduceLT,h.bC,k3,e3,i2,d2]
  exact rfl
 |true=>
 simp only[KP,Ax.loadAt,↓reduceIte,reduceEqDiff,reduceLT,Int.reduceAdd,h.bC,k3,e3,w3,i2,d2]
 rw[aC]
 have e4:x.steps.all Mc = !(x.steps.any λs=>!Mc s):=by rw[<- kg,Bool.not_not]
 rw[e4]
 simp only[KP,Ax.loadAt,↓reduceIte,reduceEqDiff,reduceLT,reduceCtorEq,h.gA,h.bM,k4,d3]
 exact rfl
theorem R_ (h:bK E) {v:V}{x:aD}(hv:IP v x)(hs:Small x):KC E 175 [v] Z (.bool (kT x)) Z:=cU λ_=>Te h hv hs
end
end
section
section
variable {E:Env}{Z:Sg}{K:V->Sg->Prop}
theorem Qd (h:bK E) {a:V}{l:List bH}(ha:LS aQ 9 Z a l)(hsm:l.length<=4294967296):aB E 209 [a] Z K=K (.bool (kW l)) Z:=by
 refine aB.of ?_
 obtain⟨a',ea,ia⟩:=kD h ha
 rw[aI h.Zo h.WO h.aae h.Yv (args':=[a']) (by simp only[aW,ea]),aY (by kernel_rfl)]
 have la:=bU h ia
 simp only[aA,Tryz.f209,KP,↓reduceIte,reduceLT,reduceCtorEq,la]
 refine aS (λi F Y=>Y=[]/\F.get 0=a'/\F.get 5=a'/\F.get 6=.int .i64 (l.length:Int)/\F.get 7=.int .i64 (i:Int)/\∀(j:Nat) (y:bH),j<i->l[j]?=some y->y ∉ l.take j) l.length ?_ ?_ l.length 0 _ _ (by omega) ⟨rfl,(fM (by simp +decide only[GS,ag]) (λj y hj=>by omega))⟩
 ·rintro i F Y hi ⟨rfl,g0,g5,g6,g7,hp⟩ next
  obtain⟨x,hx⟩:∃x,l[i]?=some x:=⟨_,BY hi⟩
  obtain⟨g,e1⟩:=g_ h ia hx
  obtain⟨w,hw,iw⟩:=wL h ia (b:=i) (by omega)
  have hlt:=dG hi
  have hadd:=bQ i (by omega)
  have kc:=λ(Y:Sg)=>C8 (Z:=Y) h (s:=x) (iw.ls Y 9) (by rw[br];omega)
  rw[aC]
  by_cases hm:x∈l.take i
  ·have hs:=AT hm
   simp only[KP,Ax.loadAt,↓reduceIte,reduceEqDiff,reduceLT,reduceCtorEq,h.c_,g0,g5,g6,g7,hlt,e1,hw,kc,hs]
   rw[Cd hx hm]
   exact rfl
  ·have hs:=AS hm
   simp only[KP,Ax.loadAt,↓reduceIte,reduceEqDiff,reduceLT,reduceCtorEq,h.c_,g0,g5,g6,g7,hlt,e1,hw,kc,hs,hadd]
   refine next _ _ ⟨rfl,(fM (by simp +decide only[GS,g0,g5,g6,ag]) (λj y hj hy=>?_))⟩
   rcases bz j i with g | g
   ·exact hp j y g hy
   ·obtain rfl:j=i:=by omega
    rw[hx]at hy;cases hy;exact hm
 ·rintro F Y ⟨rfl,g0,g5,g6,g7,hp⟩
  have hlt:=dH (b9 l.length)
  rw[aC]
  simp only[KP,↓reduceIte,reduceLT,g6,g7,hlt]
  rw[zT λj y hy=>hp j y (AI.1 hy).1 hy]
  exact rfl
theorem C7 (h:bK E) {a:V}{l:List bH}(ha:LS aQ 9 Z a l)(hsm:l.length<=4294967296):KC E 209 [a] Z (.bool (kW l)) Z:=cU λ_=>Qd h ha hsm
theorem Dt (h:bK E):m_ E 24 true .aF .aF=some true:=by unfold m_;rw[h.bC]
theorem Ds (h:bK E) {g:Bool}{rs:List (List V)}{f:Bool}:m_ E 24 true (.bS g rs f) .aF=some false:=by unfold m_;rw[h.bC]
theorem tA (h:bK E) {a:V}{l:List bH} (ia:IS aQ a l)(hl:l.length<=1000):aB E 85 [a] Z λv σ'=>aV aQ 9 σ' v l/\Kp Z σ'/\∀b,aR v=some b->Z.length<=b:=by
 rw[dR h.hs85 h.sp85 h.fn85 h.md85,aY (by kernel_rfl)]
 rcases ia with⟨rfl,rfl⟩ | ⟨g,rs,full,rfl,ha⟩
 ·simp only[aA,Tryz.f85,KP,↓reduceIte,reduceLT,reduceCtorEq,Dt h]
  exact⟨.inl ⟨rfl,rfl⟩,λ_ _ h=>h,λb hb=>by cases hb⟩
 ·obtain⟨rs',e,ha'⟩:=nW (L:=aQ) (x:=.bS g rs full) (l:=l) (.inr ⟨g,rs,full,rfl,ha⟩) (Z++[O.cells 9 [] true])
  obtain⟨w',τ',h1,h2,h3,h4,h5⟩:=iR (ats:=#[24,24]) (Z:=Z++[O.cells 9 [] true]) (w:=.sl Z.length 0 0 none) (l:=[]) (L:=aQ) h.bC rfl h.c_ rfl (by decide) (iI h) rfl (.inr ⟨Z.length,[],true,rfl,aL,.nil⟩) e ha' (dA (b:=1000) (by decide) (by simp only[b8];omega))
  rw[cq]at h2
  simp only[aA,Tryz.f85,KP,↓reduceIte,reduceEqDiff,reduceLT,reduceLeDiff,reduceCtorEq,h.c_,h.bC,Ds h,h1,Ax.fill,fR,ir]
  refine⟨h2,λc o hc=>h3 _ _ (aJ hc) λe=>?_,λb hb=>?_⟩
  ·cases e
   exact absurd (AI.1 hc).1 (b9 _)
  ·rcases h5 b hb with g | g
   ·cases g;exact ae _
   ·simp only[ak,af,b8]at g;omega
theorem G6 {Z:Sg}{ty:Nat->Option Ty}{g:Bool}{b n t m:Nat}{cs:List V}{ex:Bool}{i:Ty}(hb:Z[b]?=some (.cells t cs ex))(hty:ty t=some i)(hlen:n*i.size<=cs.length)
  (hi:∀c∈cs.take (n*i.size),Ax.bF c=true/\bT g c=true):∃full,bG Z ty g (m+2) (.sl b 0 n none)=some (.bS g (rows i.size n (cs.take (n*i.size))) full):=by
 have hm:aW (λv=>match bG Z ty g (m+1) v with
   |some v=>if bT g v then some v else Ax.no "snap: borrowed"
   |none=>none) ((cs.drop 0).take (n*i.size))=some (cs.take (n*i.size)):=by
  rw[fg]
  refine gH λx hx=>?_
  rw[gF (hi x hx).1]
  simp only[(hi x hx).2,bh]
 refine⟨ex&&decide (0<i.size)&&(0+n*i.size==cs.length),?_⟩
 rw[bG]
 simp only[hb,hty]
 rw[bf (by omega)]
 exact au (λo=>match o with
  |some l=>some (V.bS g (rows i.size n l) (ex&&decide (0<i.size)&&(0+n*i.size==cs.length)))
  |none=>none) hm
theorem Mf (h:bK E) {Z:Sg}{w:V}{l:List bH}{m:Nat} (ow:aV aQ 9 Z w l):∃w',bG Z E.ty true (m+2) w=some w'/\IS aQ w' l:=by
 rcases ow with⟨rfl,rfl⟩ | ⟨b,rs,ex,rfl,hb,ha⟩
 ·exact⟨.aF,rfl,.inl ⟨rfl,rfl⟩⟩
 ·have hfl:=Lay.flat ha
  have hfl:rs.flatten.length=l.length*1:=hfl
  have htk:rs.flatten.take (l.length*1)=rs.flatten:=ah (by omega)
  obtain⟨full,e⟩:=G6 (g:=true) (n:=l.length) (m:=m) hb h.c_ (show l.length*1<=_ by omega) (λc hcm=>by
   rw[show rs.flatten.take (l.length*1)=rs.flatten from htk]at hcm
   obtain⟨r,hr,hcr⟩:=List.mem_flatten.1 hcm
   obtain⟨x,-,hp⟩:=ha.mem hr
   have:=aQ.im r x hp c hcr
   exact⟨this,bZ this⟩)
  refine⟨_,e,.inr ⟨true,rs,full,?_,ha⟩⟩
  show V.bS true (rows 1 l.length (rs.flatten.take (l.length*1))) full=_
  rw[htk,<- ha.len]
  exact au (λz=>V.bS true z full) (kG (sz:=1) rs (Lay.lens ha))
theorem wJ {Z:Sg}{f k t:Nat}{cs cs':List V}{ex:Bool}(hb:Z[k]?=some (.cells t cs ex))(hm:aW (λv=>match bG Z E.ty true 11 v with
   |some v=>if bT true v then some v else Ax.no "snap: borrowed"
   |none=>none) cs=some cs'):aT Z E.ty true (.fn f [] [.ref k 0])=some (.fn f [] [.cL true cs']):=by
 have e:bG Z E.ty true 12 (.ref k 0)=some (.cL true cs'):=by
  rw[bG]
  simp only[hb,fg]
  exact au (λo=>match o with
   |some l=>some (V.cL true l)
   |none=>none) hm
 have e1:aT.one Z E.ty true (.ref k 0)=some (.cL true cs'):=by
  unfold aT.one
  rw[show dN=12 from rfl,e]
  rfl
 simp only[aT,aW,e1]
theorem Cq (h:bK E) {Z:Sg}{w:V}{l:List bH}{f k t:Nat}{ex:Bool}(hb:Z[k]?=some (.cells t [w] ex)) (ow:aV aQ 9 Z w l):∃w',aT Z E.ty true (.fn f [] [.ref k 0])=some (.fn f [] [.cL true [w']])/\IS aQ w' l:=by
 obtain⟨w',e,iw⟩:=Mf (m:=9) h ow
 refine⟨w',wJ hb ?_,iw⟩
 simp only[aW,e,bZ iw.bF,bh]
theorem Jl {Z:Sg}{f k t:Nat}{cs:List V}{ex:Bool}(hb:Z[k]?=some (.cells t cs ex))(hc:∀c∈cs,Ax.bF c=true):aT Z E.ty true (.fn f [] [.ref k 0])=some (.fn f [] [.cL true cs]):=
 wJ hb (gH λx hx=>by rw[show 11=10+1 from rfl,gF (hc x hx)];simp only[bZ (hc x hx),bh])
theorem Iz (h:bK E) {w:V}{l:List bH}{y:bH}{g:Bool} (iw:IS aQ w l)(hsm:l.length<=4294967296):aB E 210 [.str y,.cL g [w]] [] K=K (.bool (!decide (y∈l))) []:=by
 refine aB.of ?_
 have hi:Ax.bF (.cL g [w])=true:=rfl
 have ew:=cN (Z:=[]) (ty:=E.ty) hi (bZ hi)
 rw[aI h.Zn h.WN h.aad h.Yu (args':=[.str y,.cL g [w]]) (by simp only[aW,dM,ew]),aY (by kernel_rfl)]
 have kc:=λ(Y:Sg)=>C8 (Z:=Y) h (s:=y) (iw.ls Y 9) hsm
 simp only[aA,Tryz.f210,KP,Ax.loadAt,↓reduceIte,reduceEqDiff,reduceLT,reduceAdd,reduceCtorEq,h.bC,kc]
 exact rfl
theorem Ql (h:bK E) {a b c d:V}{l:List bH}{n y:bH}{g:Bool} (ia:IS aQ a l)(hb:Ax.bF b=true)(hc:Ax.bF c=true)(hd:Ax.bF d=true)(hsm:l.length<=4294967296):aB E 211 [.str y,.cL g [.str n,a,b,c,d]] [] K=K (.bool (decide (y∈l))) []:=by
 refine aB.of ?_
 have hi:Ax.bF (.cL g [.str n,a,b,c,d])=true:=rfl
 have ew:=cN (Z:=[]) (ty:=E.ty) hi (bZ hi)
 rw[aI h.Zm h.WM h.aac h.Yt (args':=[.str y,.cL g [.str n,a,b,c,d]]) (by simp only[aW,dM,ew]),aY (by kernel_rfl)]
 have kc:=λ(Y:Sg)=>C8 (Z:=Y) h (s:=y) (ia.ls Y 9) hsm
 simp only[aA,Tryz.f211,KP,Ax.loadAt,↓reduceIte,reduceEqDiff,reduceLT,reduceAdd,reduceCtorEq,h.bC,h.bM,kc]
 exact rfl
end
end
section
section
variable {E:Env}{Z:Sg}{K:V->Sg->Prop}
theorem aV.set {Z:Sg}{w:V}{l:List bH}{k:Nat}{y:O} (ow:aV aQ 9 Z w l)(hk:aR w≠some k):aV aQ 9 (Z.set k y) w l:=ow.keep λc o hc ho=>by
 rw[IT (λe=>hk (by rw[e];exact hc))]
 exact ho
theorem O8 (h:bK E) {x:aD}{a b c d:V} (ia:IS aQ a x.ins) (ib:IS aQ b x.outs) (id:IS fQ d x.steps)(hs:Small x) {kb:Nat}{Y:Sg}{w:V} (b0:Y[0]?=some (O.cells 46 [.str x.name,a,b,c,d] true)) (k0:Y[kb]?=some (.cells 24 [w] true)) (ow:aV aQ 9 Y w x.ins) (F:FT) (g1:F.get 1=.ref 0 0) (g3:F.get 3=.ref kb 0) (g4:F.get 4=.fn 210 [] [.ref kb 0])
  (hk:∀σ',K (.bool (iP x.ins x.steps&&x.outs.all λo=>decide (o∈x.ins++x.steps.map Step.out))) σ'):R E (cutAt [1,1,1,1,1] (aA Tryz.f176).code) [] ⟨63,F⟩ Y (mS E (aA Tryz.f176).results K):=by
 have l1:=hs.ins
 have l2:=hs.outs
 have l4:=hs.steps
 have ld:=lS h id
 simp only[aA,Tryz.f176,KP,Ax.loadAt,↓reduceIte,reduceLT,reduceCtorEq,h.gA,h.bM,cutAt,g1,b0,ld]
 refine aS (λi F Y=>F.get 1=.ref 0 0/\F.get 3=.ref kb 0/\F.get 4=.fn 210 [] [.ref kb 0]/\F.get 36=d/\F.get 37=.int .i64 (x.steps.length:Int)/\F.get 38=.int .i64 (i:Int)/\Y[0]?=some (O.cells 46 [.str x.name,a,b,c,d] true)/\∃w,Y[kb]?=some (.cells 24 [w] true)/\aV aQ 9 Y w (x.ins++(x.steps.take i).map Step.out)/\iP x.ins x.steps=iP (x.ins++(x.steps.take i).map Step.out) (x.steps.drop i)) x.steps.length ?_ ?_ x.steps.length 0 _ _ (by omega) (oG (by simp +decide only[GS,g1,g3,g4,ag]) ⟨b0,w,k0,by simpa using ow,by simp⟩)
 ·rintro i F Y hi ⟨g1,g3,g4,g36,g37,g38,b0,w,k0,ow,hst⟩ next
  obtain⟨s,hsi⟩:∃y,x.steps[i]?=some y:=⟨_,BY hi⟩
  obtain⟨g,p1,p2,e1,i1,i2⟩:=vJ h id hsi
  have a8:=hs.args s (aa hsi)
  have o1:=aN i1.bF
  have o2:=aN i2.bF
  have hlt:=dG hi
  have hadd:=bQ i (by omega)
  have hdrop:x.steps.drop i=s::x.steps.drop (i+1):=by
   obtain⟨hj,rfl⟩:=AI.1 hsi
   exact List.drop_eq_getElem_cons hj
  have htake:x.ins++(x.steps.take (i+1)).map Step.out=x.ins++(x.steps.take i).map Step.out++[s.out]:=by
   rw[dn,hsi];simp
  have hkl:(x.ins++(x.steps.take i).map Step.out).length<=100:=by
   rw[ak,bg,br];omega
  rw[hdrop,iP]at hst
  rw[htake]at next
  generalize x.ins++(x.steps.take i).map Step.out=kn at *
  rw[hst]at hk
  have b1:=aJ (x:=O.cells 113 [.str s.out,.int .i64 s.op,p1,p2,.int .i64 s.n] true) b0
  have k1:=aJ (x:=O.cells 113 [.str s.out,.int .i64 s.op,p1,p2,.int .i64 s.n] true) k0
  have s1:(Y++[O.cells 113 [.str s.out,.int .i64 s.op,p1,p2,.int .i64 s.n] true])[Y.length]?=some (O.cells 113 [.str s.out,.int .i64 s.op,p1,p2,.int .i64 s.n] true):=aL
  have ow1:=ow.app [O.cells 113 [.str s.out,.int .i64 s.op,p1,p2,.int .i64 s.n] true]
  rw[aC]
  simp only[KP,Ax.loadAt,Ax.storeAt,↓reduceIte,reduceEqDiff,reduceLT,reduceAdd,h.bC,h.bR,g3,g36,g37,g38,hlt,e1,o1,o2,aL,cA]
  generalize Y++[O.cells 113 [.str s.out,.int .i64 s.op,p1,p2,.int .i64 s.n] true]=τ1 at *
  generalize Y.length=y at *
  have kc:=C8 (Z:=τ1) h (s:=s.out) ow1.ls (by omega)
  obtain⟨w',es,iw⟩:=Cq (f:=210) h k1 ow1
  have kf:=cU (λK=>rN (Z:=τ1) (K:=K) (k:=210) (caps:=[.cL true [w']]) (P:=λy=>!decide (y∈kn)) h (i1.ls τ1 9) (by omega) (λc hc=>by cases hc with | head=>rfl | tail _ hc=>cases hc) (λy v hy hv=>by
   subst hv
   show aB E 210 [.str y,.cL true [w']] [] _
   rw[Iz h iw (by omega)];exact⟨rfl,rfl⟩) es)
  by_cases m1:s.out∈kn
  ·have q1:=AT m1
   rw[q1]at hk
   simp only[KP,Ax.loadAt,↓reduceIte,reduceEqDiff,reduceLT,reduceCtorEq,h.c_,h.bR,k1,s1,kc,q1]
   exact hk _
  have q1:=AS m1
  cases m2:s.args.any λy=>!decide (y∈kn) with
  |true=>
   rw[show s.args.all (λa=>decide (a∈kn))=false from by rw[<- gu,kg,m2],Bool.and_false,ni,ni]at hk
   simp only[KP,Ax.loadAt,↓reduceIte,reduceEqDiff,reduceLT,reduceCtorEq,h.c_,h.bC,h.bR,g4,k1,s1,kc,kf,q1,m2]
   exact hk _
  |false=>
  rw[q1,show s.args.all (λa=>decide (a∈kn))=true from by rw[<- Bool.not_eq_false',kg,m2],kz,jf,jf]at hst
  have b2:=aJ (x:=O.cells 9 [.str s.out] true) b1
  have k2:=aJ (x:=O.cells 9 [.str s.out] true) k1
  obtain⟨w2,τ2,ha2,ow2,GC,-,fr2⟩:=iR (ats:=#[24,24]) (m:=[s.out]) (new:=[[.str s.out]]) h.bC rfl h.c_ rfl (by decide) (iI h) rfl (ow1.app [.cells 9 [.str s.out] true]) (kL rfl) (.one rfl) (dA (b:=1000) (by decide) (by simp only[af,b8];omega))
  have nk:=kR (w:=w) k2 (by decide) (ow1.app [.cells 9 [.str s.out] true])
  have n0:=kR (w:=w) b2 (by decide) (ow1.app [.cells 9 [.str s.out] true])
  have k3:=GC _ _ k2 nk
  have b3:=GC _ _ b2 n0
  have nk2:aR w2≠some kb:=kR k3 (by decide) ow2
  obtain⟨c1,c2⟩:=qZ ow2
  have hkb:kb≠0:=λe=>by
   rw[e,b0]at k0
   cases k0
  have hlen:=(AI.1 k3).1
  simp only[KP,Ax.loadAt,Ax.storeAt,↓reduceIte,reduceEqDiff,reduceLT,reduceLeDiff,reduceMul,reduceCtorEq,h.c_,h.bC,h.bR,g3,g4,g38,k1,s1,kc,kf,q1,m2,lA,ha2,k3,c1,c2,hadd]
  refine next _ _ ⟨?_,?_,?_,?_,?_,?_,?_,w2,?_,?_,?_⟩
  ·exact (by simp +decide only[GS,g1])
  ·exact (by simp +decide only[GS,g3])
  ·exact (by simp +decide only[GS,g4])
  ·exact (by simp +decide only[GS,g36])
  ·exact (by simp +decide only[GS,g37])
  ·exact (by simp +decide only[GS])
  ·rw[IT hkb];exact b3
  ·rw[bj hlen]
  ·exact aV.set ow2 nk2
  ·exact hst
 ·rintro F Y ⟨g1,g3,g4,g36,g37,g38,b0,w,k0,ow,hst⟩
  rw[ah (ae _)]at ow hst
  rw[show x.steps.drop x.steps.length=[] from List.drop_length,iP]at hst
  have hkl:(x.ins++x.steps.map Step.out).length<=100:=by
   rw[ak,bg];omega
  generalize x.ins++x.steps.map Step.out=kn at *
  obtain⟨w',es,iw⟩:=Cq (f:=210) h k0 ow
  have kf:=cU (λK=>rN (Z:=Y) (K:=K) (k:=210) (caps:=[.cL true [w']]) (P:=λy=>!decide (y∈kn)) h (ib.ls Y 9) (by omega) (λc hc=>by cases hc with | head=>rfl | tail _ hc=>cases hc) (λy v hy hv=>by
   subst hv
   show aB E 210 [.str y,.cL true [w']] [] _
   rw[Iz h iw (by omega)];exact⟨rfl,rfl⟩) es)
  have hlt:=dH (b9 x.steps.length)
  rw[hst,jf]at hk
  have e:(x.outs.all λo=>decide (o∈kn)) = !(x.outs.any λy=>!decide (y∈kn)):=by rw[<- kg,Bool.not_not]
  rw[e]at hk
  rw[aC]
  simp only[KP,Ax.loadAt,↓reduceIte,reduceEqDiff,reduceLT,reduceCtorEq,h.bC,h.bM,g1,g4,g37,g38,hlt,b0,kf]
  exact hk _
theorem Tc (h:bK E) {v:V}{x:aD}(hv:IP v x)(hs:Small x):aB E 176 [v] Z K=K (.bool (fV x)) Z:=by
 refine aB.of ?_
 have ev:=hv.snap (E:=E) Z
 obtain⟨a,b,c,d,rfl,ia,ib,ic,id⟩:=hv
 have o1:=aN ia.bF
 have o2:=aN ib.bF
 have o3:=aN ic.bF
 have o4:=aN id.bF
 have l1:=hs.ins
 have l2:=hs.outs
 have l3:=hs.after
 rw[aI h.Zy h.WZ h.aan h.YE (args':=[.agg [.str x.name,a,b,c,d]]) (by simp only[aW,ev]),aY (by kernel_rfl)]
 have k1:=λ(Y:Sg)=>C7 (Z:=Y) h (ia.ls Y 9) (by omega)
 have k2:=λ(Y:Sg)=>C7 (Z:=Y) h (ib.ls Y 9) (by omega)
 have k3:=λ(Y:Sg)=>C7 (Z:=Y) h (ic.ls Y 9) (by omega)
 have kc:=λ(Y:Sg)=>C8 (Z:=Y) h (s:=x.name) (ic.ls Y 9) (by omega)
 have rest:=λ(hn:(iP x.ins x.steps&&x.outs.all λo=>decide (o∈x.ins++x.steps.map Step.out))=fV x) kb Y w F b0 k0 ow g1 g3 g4=>O8 (K:=λv σ1=>match cG σ1 E.ty false v with
   |some v=>v=.bool (fV x)
   |none=>False) (c:=c) h ia ib id hs (kb:=kb) (Y:=Y) (w:=w) b0 k0 ow F g1 g3 g4 λ_=>by rw[hn];exact rfl
 generalize hC:cutAt [1,1,1,1,1] (aA Tryz.f176).code=C at rest
 cases e0:kW x.ins with
 |true=>
  simp only[aA,Tryz.f176,KP,Ax.loadAt,↓reduceIte,reduceEqDiff,reduceLT,reduceAdd,reduceCtorEq,h.bC,h.bM,o1,o2,o3,o4,k1,e0]
  show V.bool false=V.bool (fV x)
  unfold fV
  simp[e0]
 |false=>
 cases e1:kW x.outs with
 |true=>
  simp only[aA,Tryz.f176,KP,Ax.loadAt,↓reduceIte,reduceEqDiff,reduceLT,reduceAdd,reduceCtorEq,h.bC,h.bM,o1,o2,o3,o4,k1,k2,e0,e1]
  show V.bool false=V.bool (fV x)
  unfold fV
  simp[e0,e1]
 |false=>
 cases e2:kW x.after with
 |true=>
  simp only[aA,Tryz.f176,KP,Ax.loadAt,↓reduceIte,reduceEqDiff,reduceLT,reduceAdd,reduceCtorEq,h.bC,h.bM,o1,o2,o3,o4,k1,k2,k3,e0,e1,e2]
  show V.bool false=V.bool (fV x)
  unfold fV
  simp[e0,e1,e2]
 |false=>
 cases e3:decide (x.name∈x.after) with
 |true=>
  simp only[aA,Tryz.f176,KP,Ax.loadAt,↓reduceIte,reduceEqDiff,reduceLT,reduceAdd,reduceCtorEq,h.c_,h.bC,h.bM,o1,o2,o3,o4,k1,k2,k3,kc,e0,e1,e2,e3]
  show V.bool false=V.bool (fV x)
  unfold fV
  rw[e0,e1,e2,e3]
  rfl
 |false=>
 rw[show (aA Tryz.f176).code=.seq (cutAt [0] (aA Tryz.f176).code) (.seq (cutAt [1,0] (aA Tryz.f176).code) (.seq (cutAt [1,1,0] (aA Tryz.f176).code) (.seq (cutAt [1,1,1,0] (aA Tryz.f176).code) (.seq (cutAt [1,1,1,1,0] (aA Tryz.f176).code) C)))) from by rw[<- hC];rfl]
 simp only[aA,Tryz.f176,KP,Ax.loadAt,↓reduceIte,reduceEqDiff,reduceLT,reduceAdd,reduceCtorEq,h.c_,h.bC,h.bM,cutAt,o1,o2,o3,o4,k1,k2,k3,kc,e0,e1,e2,e3]
 refine aP (tA h ia (by omega)) ?_
 rintro w Y ⟨ow,kp,-⟩
 have b0:Y[0]?=some (O.cells 46 [.str x.name,a,b,c,d] true):=kp 0 _ rfl
 obtain⟨c1,c2⟩:=qZ ow
 have b1:=aJ (x:=O.cells 24 [w] true) b0
 have kk:(Y++[O.cells 24 [w] true])[Y.length]?=some (O.cells 24 [w] true):=aL
 have es:=Jl (E:=E) (f:=211) b1 (λy hy=>by
  simp only[IN,ck,fh]at hy
  rcases hy with rfl | rfl | rfl | rfl | rfl
  ·rfl
  ·exact ia.bF
  ·exact ib.bF
  ·exact ic.bF
  ·exact id.bF)
 have kf:=cU (λK=>rN (Z:=Y++[O.cells 24 [w] true]) (K:=K) (k:=211) (caps:=[.cL true [.str x.name,a,b,c,d]]) (P:=λy=>decide (y∈x.ins)) h (ib.ls _ 9) (by omega) (λc hc=>by cases hc with | head=>rfl | tail _ hc=>cases hc) (λy v hy hv=>by
  subst hv
  show aB E 211 [.str y,.cL true [.str x.name,a,b,c,d]] [] _
  rw[Ql h ia ib.bF ic.bF id.bF (by omega)];exact⟨rfl,rfl⟩) es)
 have eo:(x.outs.all λo=>!decide (o∈x.ins)) = !(x.outs.any λy=>decide (y∈x.ins)):=by rw[List.not_any_eq_all_not]
 cases e4:x.outs.any λy=>decide (y∈x.ins) with
 |true=>
  simp only[KP,Ax.loadAt,Ax.storeAt,↓reduceIte,reduceEqDiff,reduceLT,reduceCtorEq,h.bC,h.bM,b1,kf,e4,c1,c2,aL,cA]
  show V.bool false=V.bool (fV x)
  unfold fV
  rw[eo,e0,e1,e2,e3,e4]
  rfl
 |false=>
 simp only[KP,Ax.loadAt,Ax.storeAt,↓reduceIte,reduceEqDiff,reduceLT,reduceCtorEq,h.bC,h.bM,b1,kf,e4,c1,c2,aL,cA]
 refine rest ?_ Y.length _ w _ b1 kk (ow.app _) ?_ ?_ ?_
 ·unfold fV
  rw[eo,e0,e1,e2,e3,e4]
  simp
 ·exact (by simp +decide only[GS])
 ·exact (by simp +decide only[GS])
 ·exact (by simp +decide only[GS])
theorem R6 (h:bK E) {v:V}{x:aD}(hv:IP v x)(hs:Small x):KC E 176 [v] Z (.bool (fV x)) Z:=cU λ_=>Tc h hv hs
end
end
section
section
variable {E:Env}{Z:Sg}{K:V->Sg->Prop}
theorem Tg (h:bK E) {v:V}{x:aD}(hv:IP v x)(hs:Small x):aB E 143 [v] Z K=K (.int .i64 (bE x)) Z:=by
 refine aB.of ?_
 have ev:=hv.snap (E:=E) Z
 obtain⟨a,b,c,d,rfl,ia,ib,ic,id⟩:=hv
 have o1:=aN ia.bF
 have o2:=aN ib.bF
 have o3:=aN ic.bF
 have o4:=aN id.bF
 have la:=bU h ia
 have lb:=bU h ib
 have lc:=bU h ic
 have ld:=lS h id
 rw[aI h.ZH h.Xb h.aav h.YM (args':=[.agg [.str x.name,a,b,c,d]]) (by simp only[aW,ev]),aY (by kernel_rfl)]
 have k1:=λ(Y:Sg)=>R_ (Z:=Y) h (v:=.agg [.str x.name,a,b,c,d]) ⟨a,b,c,d,rfl,ia,ib,ic,id⟩ hs
 have k2:=λ(Y:Sg)=>R6 (Z:=Y) h (v:=.agg [.str x.name,a,b,c,d]) ⟨a,b,c,d,rfl,ia,ib,ic,id⟩ hs
 cases e1:kT x with
 |false=>
  simp only[aA,Tryz.f143,KP,Ax.loadAt,↓reduceIte,reduceEqDiff,reduceLT,reduceAdd,h.bM,o1,o2,o3,o4,k1,e1]
  show V.int .i64 1=V.int .i64 (bE x)
  rw[show bE x=1 from by unfold bE;rw[bf e1]]
 |true=>
 by_cases p0:8<x.ins.length
 ·have q0:decide ((8:Int)<(x.ins.length:Int))=true:=AT (by omega)
  simp only[aA,Tryz.f143,KP,Ax.loadAt,↓reduceIte,reduceEqDiff,reduceLT,reduceAdd,reduceCtorEq,h.bC,h.bM,o1,o2,o3,o4,la,k1,e1,q0]
  show V.int .i64 4=V.int .i64 (bE x)
  rw[show bE x=4 from by unfold bE;rw[az (by rw[e1];simp)];rw[bf (by unfold long;rw[AT p0];simp)]]
 have q0:decide ((8:Int)<(x.ins.length:Int))=false:=AS (by omega)
 by_cases p1:4<x.outs.length
 ·have q1:decide ((4:Int)<(x.outs.length:Int))=true:=AT (by omega)
  simp only[aA,Tryz.f143,KP,Ax.loadAt,↓reduceIte,reduceEqDiff,reduceLT,reduceAdd,reduceCtorEq,h.bC,h.bM,o1,o2,o3,o4,la,lb,k1,e1,q0,q1]
  show V.int .i64 4=V.int .i64 (bE x)
  rw[show bE x=4 from by unfold bE;rw[az (by rw[e1];simp)];rw[bf (by unfold long;rw[AT p1];simp)]]
 have q1:decide ((4:Int)<(x.outs.length:Int))=false:=AS (by omega)
 by_cases p2:8<x.after.length
 ·have q2:decide ((8:Int)<(x.after.length:Int))=true:=AT (by omega)
  simp only[aA,Tryz.f143,KP,Ax.loadAt,↓reduceIte,reduceEqDiff,reduceLT,reduceAdd,reduceCtorEq,h.bC,h.bM,o1,o2,o3,o4,la,lb,lc,k1,e1,q0,q1,q2]
  show V.int .i64 4=V.int .i64 (bE x)
  rw[show bE x=4 from by unfold bE;rw[az (by rw[e1];simp)];rw[bf (by unfold long;rw[AT p2];simp)]]
 have q2:decide ((8:Int)<(x.after.length:Int))=false:=AS (by omega)
 by_cases p3:12<x.steps.length
 ·have q3:decide ((12:Int)<(x.steps.length:Int))=true:=AT (by omega)
  simp only[aA,Tryz.f143,KP,Ax.loadAt,↓reduceIte,reduceEqDiff,reduceLT,reduceAdd,reduceCtorEq,h.bC,h.gA,h.bM,o1,o2,o3,o4,la,lb,lc,ld,k1,e1,q0,q1,q2,q3]
  show V.int .i64 4=V.int .i64 (bE x)
  rw[show bE x=4 from by unfold bE;rw[az (by rw[e1];simp)];rw[bf (by unfold long;rw[AT p3];simp)]]
 have q3:decide ((12:Int)<(x.steps.length:Int))=false:=AS (by omega)
 cases e2:fV x with
 |false=>
  simp only[aA,Tryz.f143,KP,Ax.loadAt,↓reduceIte,reduceEqDiff,reduceLT,reduceAdd,reduceCtorEq,h.bC,h.gA,h.bM,o1,o2,o3,o4,la,lb,lc,ld,k1,k2,e1,q0,q1,q2,q3,e2]
  show V.int .i64 2=V.int .i64 (bE x)
  rw[show bE x=2 from by unfold bE;rw[az (by rw[e1];simp)];rw[az (by unfold long;rw[AS p0,AS p1,AS p2,AS p3];simp)];rw[bf e2]]
 |true=>
 simp only[aA,Tryz.f143,KP,Ax.loadAt,↓reduceIte,reduceEqDiff,reduceLT,reduceAdd,reduceCtorEq,h.bC,h.gA,h.bM,o1,o2,o3,o4,la,lb,lc,ld,k1,k2,e1,q0,q1,q2,q3,e2]
 show V.int .i64 0=V.int .i64 (bE x)
 rw[show bE x=0 from by unfold bE;rw[az (by rw[e1];simp)];rw[az (by unfold long;rw[AS p0,AS p1,AS p2,AS p3];simp)];rw[az (by rw[e2];simp)]]
theorem Sh (h:bK E) {v:V}{x:aD}(hv:IP v x)(hs:Small x):KC E 143 [v] Z (.int .i64 (bE x)) Z:=cU λ_=>Tg h hv hs
end
end
section
section
variable {E:Env}{Z:Sg}{K:V->Sg->Prop}
def SM (E:Env) (es:List (V × V)) (get:bH->Option V):Prop:=(∀e∈es,(∃k,e.1=.str k)/\Ax.bF e.2=true)/\∀k,iV (eC E 9) (.str k) es=some (get k)
theorem cE (h:bK E) (a b:bH):eC E 9 (.str a) (.str b)=some (Ax.seq a b):=by unfold eC;rw[h.c_]
theorem Jo:SM E [] λ_=>none:=⟨λ_ h=>(by cases h),λ_=>rfl⟩
theorem FI (h:bK E) {v:V} (k:bH)(hv:Ax.bF v=true):∀{es:List (V × V)}{get:bH->Option V},SM E es get->∃es',kI (eC E 9) (.str k) v es=some es'/\SM E es' λq=>if q=k then some v else get q
 | [],get,hs=>by
  refine⟨[(.str k,v)],rfl,λe he=>?_,λq=>?_⟩
  ·rw[cj.1 he]
   exact⟨⟨k,rfl⟩,hv⟩
  ·show _=some (if q=k then some v else get q)
   have e0:none=get q:=dc (hs.2 q)
   rw[iV,cE h]
   by_cases hq:q=k
   ·rw[iS hq,bf hq]
   ·rw[gU hq,az hq,<- e0];rfl
 |(k0,v0)::r,get,hs=>by
  obtain⟨⟨s0,e0⟩,i0⟩:=hs.1 _ (By ..)
  dsimp only at e0 i0
  subst e0
  by_cases hk:k=s0
  ·refine⟨(.str k,v)::r,by rw[kI,cE h,iS hk],λe he=>?_,λq=>?_⟩
   ·rcases IN.1 he with rfl | he
    ·exact⟨⟨k,rfl⟩,hv⟩
    ·exact hs.1 e (No _ he)
   ·have:=hs.2 q
    show _=some (if q=k then some v else get q)
    rw[iV,cE h]at this ⊢
    by_cases hq:q=k
    ·rw[iS hq,bf hq]
    ·rw[gU (show q≠s0 by rw[<- hk];exact hq)]at this
     rw[gU hq,az hq]
     exact this
  ·have hs':SM E r λq=>if q=s0 then (match iV (eC E 9) (.str q) r with | some y=>y | none=>none) else get q:=by
    refine⟨λe he=>hs.1 e (No _ he),λq=>?_⟩
    have:=hs.2 q
    rw[iV,cE h]at this
    show _=some (if q=s0 then (match iV (eC E 9) (.str q) r with | some y=>y | none=>none) else get q)
    by_cases hq:q=s0
    ·rw[bf hq]
     have tot:∀(l:List (V × V)),(∀e∈l,∃k,e.1=V.str k)->∃y,iV (eC E 9) (.str q) l=some y:=by
      intro l
      induction l with
      |nil=>intro _;exact⟨none,rfl⟩
      |cons e l ih=>
       intro hl
       obtain⟨k1,e1⟩:=hl _ (By ..)
       obtain⟨a,b⟩:=e
       dsimp only at e1
       subst e1
       rw[iV,cE h]
       by_cases h1:q=k1
       ·rw[iS h1];exact⟨_,rfl⟩
       ·rw[gU h1];exact ih λe he=>hl e (No _ he)
     obtain⟨y,hy⟩:=tot r λe he=>(hs.1 e (No _ he)).1
     rw[hy]
    ·rw[az hq]
     rw[gU hq]at this
     exact this
   obtain⟨r',e1,s1⟩:=FI h k hv hs'
   refine⟨(.str s0,v0)::r',by rw[kI,cE h,gU hk];simp only[e1],λe he=>?_,λq=>?_⟩
   ·rcases IN.1 he with rfl | he
    ·exact⟨⟨s0,rfl⟩,i0⟩
    ·exact s1.1 e he
   ·have:=hs.2 q
    show _=some (if q=k then some v else get q)
    rw[iV,cE h]at this ⊢
    by_cases hq:q=s0
    ·rw[iS hq]at this ⊢
     rw[az (show q≠k by rw[hq];exact ju hk)]
     exact this
    ·rw[gU hq]
     have h2:=s1.2 q
     dsimp only at h2
     rw[az hq]at h2
     exact h2
def SB (E:Env) (es:List (V × V)) (p:bH->Bool):Prop:=SM E es λk=>if p k=true then some (.bool true) else none
theorem Ow:SB E [] λ_=>false:=Jo
theorem UJ (h:bK E) {es:List (V × V)}{p:bH->Bool}(hs:SB E es p) (k:bH):∃es',kI (eC E 9) (.str k) (.bool true) es=some es'/\SB E es' λq=>p q||decide (q=k):=by
 obtain⟨es',h1,h2⟩:=FI h (v:=.bool true) k rfl hs
 refine⟨es',h1,h2.1,λq=>(h2.2 q).trans ?_⟩
 show some (if q=k then some (V.bool true) else if p q=true then some (V.bool true) else none)=some (if (p q||decide (q=k))=true then some (V.bool true) else none)
 by_cases hq:q=k
 ·rw[bf hq,AT hq,Bool.or_true,bf rfl]
 ·rw[az hq,AS hq,ou]
theorem SB.congr {es:List (V × V)}{p q:bH->Bool}(hs:SB E es p) (e:∀k,p k=q k):SB E es q:=by
 rwa [show p=q from funext e]at hs
theorem F8 (h:bK E) {Z:Sg}{x:V}{es:List (V × V)}{p:bH->Bool}(hx:entriesOf Z x=some es)(hs:SB E es p) (k:bH):lookup E Z 103 x (.str k) false=some (.bool (p k)):=by
 have hk:eI E 9 (.str k)=true:=by unfold eI;rw[h.c_]
 unfold Ax.lookup
 simp only[h.tG,h.tR,hk,hx,hs.2 k,dh,ai,ay]
 cases p k <;> rfl
theorem NO (h:bK E) {Z:Sg}{b:Nat}{es:List (V × V)}{p:bH->Bool}(hb:Z[b]?=some (.map es))(hs:SB E es p) (k:bH):∃es',mapUpdate E Z 103 (.mp b) (.str k) (.bool true)=some (Z.set b (.map es'))/\SB E es' λq=>p q||decide (q=k):=by
 obtain⟨es',h1,h2⟩:=UJ h hs k
 have hk:eI E 9 (.str k)=true:=by unfold eI;rw[h.c_]
 refine⟨es',?_,h2⟩
 unfold Ax.mapUpdate
 simp only[h.tG,hk,hb,h1,fI,V.aZ,dh,iu,ai,ay,bw]
theorem Mg (h:bK E) {Z:Sg}{b m:Nat}{es:List (V × V)}{get:bH->Option V}(hb:Z[b]?=some (.map es))(hs:SM E es get):bG Z E.ty true (m+2) (.mp b)=some (.imp true es):=by
 rw[bG]
 simp only[hb]
 rw[gH λe he=>?_]
 obtain⟨⟨k,e1⟩,e2⟩:=hs.1 e he
 obtain⟨a,v⟩:=e
 dsimp only at e1 e2
 subst e1
 have e3:bG Z E.ty true (m+1) v=some v:=gF e2
 have e4:=bZ e2
 have hpc:(V.str k).cells.all Ax.plainCell=true:=rfl
 cases v <;> first
  |(simp only[hpc,e3,e4,bh];done)
  |cases e2
theorem Ep (h:bK E) {Z:Sg}{f k b t:Nat}{ex:Bool}{es:List (V × V)}{get:bH->Option V}(hk:Z[k]?=some (.cells t [.mp b] ex))(hb:Z[b]?=some (.map es))(hs:SM E es get):aT Z E.ty true (.fn f [] [.ref k 0])=some (.fn f [] [.cL true [.imp true es]]):=by
 refine wJ hk ?_
 simp only[aW,Mg (m:=9) h hb hs,show bT true (V.imp true es)=true from rfl,bh]
theorem Qk (h:bK E) {es:List (V × V)}{p:bH->Bool}{y:bH}{g g2:Bool}(hs:SB E es p):aB E 152 [.str y,.cL g [.imp g2 es]] [] K=K (.bool (p y)) []:=by
 refine aB.of ?_
 have hi:Ax.bF (.cL g [.imp g2 es])=true:=rfl
 have ew:=cN (Z:=[]) (ty:=E.ty) hi (bZ hi)
 rw[aI h.ZD h.W8 h.aar h.YI (args':=[.str y,.cL g [.imp g2 es]]) (by simp only[aW,dM,ew]),aY (by kernel_rfl)]
 have hl:=λZ=>F8 (Z:=Z) (x:=.imp g2 es) h rfl hs y
 simp only[aA,Tryz.f152,KP,Ax.loadAt,↓reduceIte,reduceEqDiff,reduceLT,reduceAdd,reduceCtorEq,h.tG,hl]
 exact rfl
theorem Qj (h:bK E) {es:List (V × V)}{p:bH->Bool}{y:bH}{g g2:Bool}(hs:SB E es p):aB E 153 [.str y,.cL g [.imp g2 es]] [] K=K (.bool (!p y)) []:=by
 refine aB.of ?_
 have hi:Ax.bF (.cL g [.imp g2 es])=true:=rfl
 have ew:=cN (Z:=[]) (ty:=E.ty) hi (bZ hi)
 rw[aI h.ZC h.W7 h.aaq h.YH (args':=[.str y,.cL g [.imp g2 es]]) (by simp only[aW,dM,ew]),aY (by kernel_rfl)]
 have hl:=λZ=>F8 (Z:=Z) (x:=.imp g2 es) h rfl hs y
 simp only[aA,Tryz.f153,KP,Ax.loadAt,↓reduceIte,reduceEqDiff,reduceLT,reduceAdd,reduceCtorEq,h.tG,hl]
 exact rfl
end
end
section
section
variable {E:Env}{Z:Sg}{K:V->Sg->Prop}
structure n_ (E:Env) (Y:Sg) (kr ko mr mo:Nat) (p1 p2:bH->Bool):Prop where
 b1:Y[kr]?=some (.cells 103 [.mp mr] true)
 b2:Y[ko]?=some (.cells 103 [.mp mo] true)
 m1:∃es,Y[mr]?=some (.map es)/\SB E es p1
 m2:∃es,Y[mo]?=some (.map es)/\SB E es p2
 ne:mr≠mo
theorem n_.app {Y:Sg}{kr ko mr mo:Nat}{p1 p2:bH->Bool}(h:n_ E Y kr ko mr mo p1 p2) (y:O):n_ E (Y++[y]) kr ko mr mo p1 p2:=by
 obtain⟨e1,h1,s1⟩:=h.m1
 obtain⟨e2,h2,s2⟩:=h.m2
 exact⟨aJ h.b1,aJ h.b2,⟨e1,aJ h1,s1⟩,⟨e2,aJ h2,s2⟩,h.ne⟩
theorem qC {Y:Sg}{i j:Nat}{x y:O}(h1:Y[i]?=some x)(h2:Y[j]?=some y)(h:x≠y):i≠j:=λe=>h (by rw[e,h2]at h1;exact (dc h1).symm)
theorem n_.UP {Y:Sg}{kr ko mr mo:Nat}{p1 p2 q1:bH->Bool}{es:List (V × V)}(h:n_ E Y kr ko mr mo p1 p2)(hs:SB E es q1):n_ E (Y.set mr (.map es)) kr ko mr mo q1 p2:=by
 obtain⟨e1,h1,s1⟩:=h.m1
 obtain⟨e2,h2,s2⟩:=h.m2
 have n1:=qC h1 h.b1 (by intro e;cases e)
 have n2:=qC h1 h.b2 (by intro e;cases e)
 exact⟨by rw[IT n1];exact h.b1,by rw[IT n2];exact h.b2,⟨es,by rw[bj (AI.1 h1).1],hs⟩,⟨e2,by rw[IT h.ne];exact h2,s2⟩,h.ne⟩
theorem n_.put2 {Y:Sg}{kr ko mr mo:Nat}{p1 p2 q2:bH->Bool}{es:List (V × V)}(h:n_ E Y kr ko mr mo p1 p2)(hs:SB E es q2):n_ E (Y.set mo (.map es)) kr ko mr mo p1 q2:=by
 obtain⟨e1,h1,s1⟩:=h.m1
 obtain⟨e2,h2,s2⟩:=h.m2
 have n1:=qC h2 h.b1 (by intro e;cases e)
 have n2:=qC h2 h.b2 (by intro e;cases e)
 exact⟨by rw[IT n1];exact h.b1,by rw[IT n2];exact h.b2,⟨e1,by rw[IT (ju h.ne)];exact h1,s1⟩,⟨es,by rw[bj (AI.1 h2).1],hs⟩,h.ne⟩
def iU (rs:List aD) (k:bH):Bool:=rs.any λq=>decide (q.name=k)
def vY (rs:List aD) (k:bH):Bool:=rs.any λq=>decide (k∈q.outs)
theorem t_ {rs:List aD}{n:bH}:decide (gB rs n=none) = !iU rs n:=by
 unfold gB iU
 rw[<- cI]
 cases bI (λr=>decide (r.name=n)) rs <;> rfl
theorem DD {rs:List aD}{i:Nat}{r:aD}(hr:rs[i]?=some r):oP rs i=(iU (rs.take i) r.name||r.outs.any (vY (rs.take i))):=by
 unfold oP iU vY
 rw[hr,dw]
 simp only[fc,fq,OF]
 constructor
 ·rintro⟨q,hq,e | ⟨x,hx,e⟩⟩
  ·exact .inl ⟨q,hq,e⟩
  ·exact .inr ⟨x,hx,q,hq,e⟩
 ·rintro (⟨q,hq,e⟩ | ⟨x,hx,q,hq,e⟩)
  ·exact⟨q,hq,.inl e⟩
  ·exact⟨q,hq,.inr ⟨x,hx,e⟩⟩
theorem HB {rs:List aD}{i:Nat}{r:aD}(hr:rs[i]?=some r) (k:bH):iU (rs.take (i+1)) k=(iU (rs.take i) k||decide (k=r.name)):=by
 unfold iU
 rw[pX hr,me.2 ⟨Eq.symm,Eq.symm⟩]
theorem JB {rs:List aD}{i:Nat}{r:aD}(hr:rs[i]?=some r) (k:bH):vY (rs.take (i+1)) k=(vY (rs.take i) k||decide (k∈r.outs)):=pX hr
theorem XX (h:bK E) {a:V}{rs:List aD} (ia:IS dO a rs)(hs:∀x∈rs,Small x)(hE:gZ rs=if h_ rs=true then 2 else 0)(hl:rs.length<=4294967296) {Y:Sg}{kr ko mr mo:Nat}{p2:bH->Bool} (bx:n_ E Y kr ko mr mo (iU rs) p2) (F:FT) (g0:F.get 0=a) (g7:F.get 7=.ref kr 0)(hk:∀nm σ',K (.gR [.int .i64 (gZ rs),.str nm]) σ') :
  R E (cutAt [1,1,1,1,1] (aA Tryz.f115).code) [] ⟨81,F⟩ Y (mS E (aA Tryz.f115).results K):=by
 have la:=cZ h ia
 have d28:=h.SQ
 simp only[aA,Tryz.f115,cutAt,an]at d28
 simp only[aA,Tryz.f115,KP,↓reduceIte,reduceLT,cutAt,g0,la]
 refine aS (λi F Y=>F.get 7=.ref kr 0/\F.get 68=a/\F.get 69=.int .i64 (rs.length:Int)/\F.get 70=.int .i64 (i:Int)/\n_ E Y kr ko mr mo (iU rs) p2/\∀(j:Nat) (r:aD),j<i->rs[j]?=some r->r.after.any (λn=>!iU rs n)=false) rs.length ?_ ?_ rs.length 0 _ _ (by omega) (fM (by simp +decide only[GS,g7,ag]) ⟨bx,λj r hj=>by omega⟩)
 ·rintro i F Y hi ⟨g7,g68,g69,g70,bx,hp⟩ next
  obtain⟨r,hr⟩:∃y,rs[i]?=some y:=⟨_,BY hi⟩
  obtain⟨g,p1,p2',p3,p4,e1,i1,i2,i3,i4⟩:=eH h ia hr
  have hsm:=hs r (aa hr)
  have a3:=hsm.after
  have o1:=aN i1.bF
  have o2:=aN i2.bF
  have o3:=aN i3.bF
  have o4:=aN i4.bF
  have hlt:=dG hi
  have hadd:=bQ i (by omega)
  have bx1:=bx.app (O.cells 46 [.str r.name,p1,p2',p3,p4] true)
  have s1:(Y++[O.cells 46 [.str r.name,p1,p2',p3,p4] true])[Y.length]?=some (O.cells 46 [.str r.name,p1,p2',p3,p4] true):=aL
  rw[aC]
  simp only[KP,Ax.loadAt,Ax.storeAt,↓reduceIte,reduceEqDiff,reduceLT,reduceAdd,reduceCtorEq,h.bC,h.bM,g7,g68,g69,g70,hlt,e1,o1,o2,o3,o4,aL,cA]
  generalize Y++[O.cells 46 [.str r.name,p1,p2',p3,p4] true]=τ1 at *
  generalize Y.length=y at *
  obtain⟨es,hm,hsb⟩:=bx1.m1
  have ef:=Ep (f:=153) h bx1.b1 hm hsb
  have kf:=cU (λK=>rN (Z:=τ1) (K:=K) (k:=153) (caps:=[.cL true [.imp true es]]) (P:=λn=>!iU rs n) h (i3.ls τ1 9) (by omega) (λc hc=>by cases hc with | head=>rfl | tail _ hc=>cases hc) (λy v hy hv=>by
   subst hv
   show aB E 153 [.str y,.cL true [.imp true es]] [] _
   rw[Qj h hsb];exact⟨rfl,rfl⟩) ef)
  cases m:r.after.any λn=>!iU rs n with
  |true=>
   have hstr:h_ rs=true:=by
    unfold h_
    refine fc.2 ⟨r,aa hr,?_⟩
    rw[<- m]
    exact au (λf=>r.after.any f) (funext λn=>t_)
   rw[hE,bf hstr]at hk
   simp only[KP,Ax.loadAt,↓reduceIte,reduceEqDiff,reduceLT,reduceCtorEq,h.c_,h.bM,s1,kf,m,aK d28,bB]
   exact hk _ _
  |false=>
  simp only[KP,↓reduceIte,reduceEqDiff,reduceLT,g70,kf,m,hadd]
  refine next _ _ (fM (by simp +decide only[GS,g7,g68,g69,ag]) ⟨bx1,λj q hj hq=>?_⟩)
  rcases bz j i with g | g
  ·exact hp j q g hq
  ·obtain rfl:j=i:=by omega
   rw[hr]at hq;cases hq;exact m
 ·rintro F Y ⟨g7,g68,g69,g70,bx,hp⟩
  have hstr:h_ rs=false:=by
   unfold h_
   refine mu.2 λr hr=>?_
   obtain⟨j,hj,e⟩:=ez hr
   have:=hp j r hj (by rw[BY hj,e])
   rw[show (r.after.any λn=>decide (gB rs n=none))=r.after.any λn=>!iU rs n from au (λf=>r.after.any f) (funext λn=>t_),this]
   simp
  rw[hE,az (by rw[hstr];simp)]at hk
  have hlt:=dH (b9 rs.length)
  rw[aC]
  simp only[KP,↓reduceIte,reduceEqDiff,reduceLT,lN,g69,g70,hlt]
  exact hk _ _
end
end
section
section
variable {E:Env}{Z:Sg}{K:V->Sg->Prop}
theorem n_.congr {Y:Sg}{kr ko mr mo:Nat}{p1 p2 q1 q2:bH->Bool}(h:n_ E Y kr ko mr mo p1 p2) (e1:∀k,p1 k=q1 k) (e2:∀k,p2 k=q2 k):n_ E Y kr ko mr mo q1 q2:=by
 rwa [show p1=q1 from funext e1,show p2=q2 from funext e2]at h
theorem XW (h:bK E) {a:V}{rs:List aD} (ia:IS dO a rs)(hs:∀x∈rs,Small x)(hE:gZ rs=if sY rs=true then 2 else if h_ rs=true then 2 else 0)(hl:rs.length<=4294967296) {Y:Sg}{kr ko mr mo:Nat} (bx:n_ E Y kr ko mr mo (λ_=>false) (λ_=>false)) (F:FT) (g0:F.get 0=a) (g7:F.get 7=.ref kr 0) (g8:F.get 8=.ref ko 0)(hk:∀nm σ',K (.gR [.int .i64 (gZ rs),.str nm]) σ') :
  R E (cutAt [1,1,1,1] (aA Tryz.f115).code) [] ⟨81,F⟩ Y (mS E (aA Tryz.f115).results K):=by
 have la:=cZ h ia
 have key:=λ(hE':gZ rs=if h_ rs=true then 2 else 0) Y p2 bx F g0 g7=>XX (K:=K) (Y:=Y) (kr:=kr) (ko:=ko) (mr:=mr) (mo:=mo) (p2:=p2) h ia hs hE' hl bx F g0 g7 hk
 rw[show cutAt [1,1,1,1] (aA Tryz.f115).code=.seq (cutAt [1,1,1,1,0] (aA Tryz.f115).code) (cutAt [1,1,1,1,1] (aA Tryz.f115).code) from rfl]
 have d16:=h.SU
 simp only[aA,Tryz.f115,cutAt,an]at d16
 generalize cutAt [1,1,1,1,1] (aA Tryz.f115).code=C at key ⊢
 simp only[aA,Tryz.f115,KP,↓reduceIte,reduceLT,cutAt,g0,la]
 refine aS (λi F Y=>F.get 0=a/\F.get 7=.ref kr 0/\F.get 8=.ref ko 0/\F.get 35=a/\F.get 36=.int .i64 (rs.length:Int)/\F.get 37=.int .i64 (i:Int)/\n_ E Y kr ko mr mo (iU (rs.take i)) (vY (rs.take i))/\∀j,j<i->oP rs j=false) rs.length ?_ ?_ rs.length 0 _ _ (by omega) (oG (by simp +decide only[GS,g0,g7,g8,ag]) ⟨bx,λj hj=>by omega⟩)
 ·rintro i F Y hi ⟨g0,g7,g8,g35,g36,g37,bx,hp⟩ next
  obtain⟨r,hr⟩:∃y,rs[i]?=some y:=⟨_,BY hi⟩
  obtain⟨g,p1,p2',p3,p4,e1,i1,i2,i3,i4⟩:=eH h ia hr
  have hsm:=hs r (aa hr)
  have a2:=hsm.outs
  have o1:=aN i1.bF
  have o2:=aN i2.bF
  have o3:=aN i3.bF
  have o4:=aN i4.bF
  have hlt:=dG hi
  have hadd:=bQ i (by omega)
  have lo:=bU h i2
  have bx1:=bx.app (O.cells 46 [.str r.name,p1,p2',p3,p4] true)
  have s1:(Y++[O.cells 46 [.str r.name,p1,p2',p3,p4] true])[Y.length]?=some (O.cells 46 [.str r.name,p1,p2',p3,p4] true):=aL
  rw[aC]
  simp only[KP,Ax.loadAt,Ax.storeAt,↓reduceIte,reduceEqDiff,reduceLT,reduceAdd,h.bM,h.tG,g7,g8,g35,g36,g37,hlt,e1,o1,o2,o3,o4,aL,cA]
  generalize Y++[O.cells 46 [.str r.name,p1,p2',p3,p4] true]=τ1 at *
  generalize Y.length=y at *
  obtain⟨es1,hm1,hsb1⟩:=bx1.m1
  obtain⟨es2,hm2,hsb2⟩:=bx1.m2
  have bb1:=bx1.b1
  have ef:=Ep (f:=152) h bx1.b2 hm2 hsb2
  have kf:=cU (λK=>rN (Z:=τ1) (K:=K) (k:=152) (caps:=[.cL true [.imp true es2]]) (P:=vY (rs.take i)) h (i2.ls τ1 9) (by omega) (λc hc=>by cases hc with | head=>rfl | tail _ hc=>cases hc) (λy v hy hv=>by
   subst hv
   show aB E 152 [.str y,.cL true [.imp true es2]] [] _
   rw[Qk h hsb2];exact⟨rfl,rfl⟩) ef)
  have hlk:=F8 (Z:=τ1) (x:=.mp mr) h (by unfold entriesOf;simp only[hm1]) hsb1 r.name
  have hcl:=DD hr
  have yes:oP rs i=true->gZ rs=2:=λe=>by
   rw[hE,bf]
   exact fc.2 ⟨i,l5.2 hi,e⟩
  cases m1:iU (rs.take i) r.name with
  |true=>
   rw[m1,Bool.true_or]at hcl
   rw[yes hcl]at hk
   simp only[KP,Ax.loadAt,↓reduceIte,reduceEqDiff,reduceLT,reduceCtorEq,h.c_,h.bM,s1,bb1,hlk,m1,aK d16,bB]
   exact hk _ _
  |false=>
  rw[m1,Bool.false_or]at hcl
  cases m2:r.outs.any (vY (rs.take i)) with
  |true=>
   rw[m2]at hcl
   rw[yes hcl]at hk
   simp only[KP,Ax.loadAt,↓reduceIte,reduceEqDiff,reduceLT,reduceCtorEq,h.c_,h.bC,h.bM,s1,bb1,hlk,kf,m1,m2,aK d16,bB]
   exact hk _ _
  |false=>
  rw[m2]at hcl
  obtain⟨es1',hu,hsb1'⟩:=NO h hm1 hsb1 r.name
  have bx2:=bx1.UP hsb1'
  have ny:mr≠y:=qC hm1 s1 (by intro e;cases e)
  have s2:(τ1.set mr (.map es1'))[y]?=some (O.cells 46 [.str r.name,p1,p2',p3,p4] true):=by rw[IT ny];exact s1
  simp only[KP,Ax.loadAt,↓reduceIte,reduceEqDiff,reduceLT,reduceCtorEq,h.c_,h.bC,h.bM,h.tG,g7,s1,bb1,hlk,kf,m1,m2,hu,s2,lo]
  refine aS (λj F Y=>F.get 0=a/\F.get 7=.ref kr 0/\F.get 8=.ref ko 0/\F.get 35=a/\F.get 36=.int .i64 (rs.length:Int)/\F.get 37=.int .i64 (i:Int)/\F.get 58=p2'/\F.get 59=.int .i64 (r.outs.length:Int)/\F.get 60=.int .i64 (j:Int)/\n_ E Y kr ko mr mo (λk=>iU (rs.take i) k||decide (k=r.name)) (λk=>vY (rs.take i) k||decide (k∈r.outs.take j))) r.outs.length ?_ ?_ r.outs.length 0 _ _ (by omega) (zJ (by simp +decide only[GS,g0,g7,g8,g35,g36,g37,ag]) (bx2.congr (λ_=>rfl) (λk=>by simp)))
  ·rintro j F Y hj ⟨g0,g7,g8,g35,g36,g37,g58,g59,g60,bx⟩ next2
   obtain⟨s,hsj⟩:∃y,r.outs[j]?=some y:=⟨_,BY hj⟩
   obtain⟨g',e2⟩:=g_ h i2 hsj
   have hlt2:=dG hj
   have hadd2:=bQ j (by omega)
   obtain⟨es3,hm3,hsb3⟩:=bx.m2
   obtain⟨es3',hu3,hsb3'⟩:=NO h hm3 hsb3 s
   have bb2:=bx.b2
   rw[aC]
   simp only[KP,Ax.loadAt,↓reduceIte,reduceEqDiff,reduceLT,h.c_,h.tG,g8,g58,g59,g60,hlt2,e2,bb2,hu3,hadd2]
   refine next2 _ _ (zJ (by simp +decide only[GS,g0,g7,g8,g35,g36,g37,g58,g59,ag]) ((bx.put2 hsb3').congr (λ_=>rfl) (λk=>?_)))
   rw[dn,hsj,Bool.or_assoc,dw]
   simp
  ·rintro F Y ⟨g0,g7,g8,g35,g36,g37,g58,g59,g60,bx⟩
   rw[ah (ae _)]at bx
   have hlt2:=dH (b9 r.outs.length)
   rw[aC]
   simp only[KP,↓reduceIte,reduceEqDiff,reduceLT,g37,g59,g60,hlt2,hadd]
   refine next _ _ (oG (by simp +decide only[GS,g0,g7,g8,g35,g36,ag]) ⟨bx.congr (λk=>(HB hr k).symm) (λk=>(JB hr k).symm),λj hj=>?_⟩)
   rcases bz j i with g | g
   ·exact hp j g
   ·obtain rfl:j=i:=by omega
    exact hcl
 ·rintro F Y ⟨g0,g7,g8,g35,g36,g37,bx,hp⟩
  have hcl:sY rs=false:=mu.2 λj hj=>by rw[hp j (l5.1 hj)];simp
  rw[az (by rw[hcl];simp)]at hE
  rw[ah (ae _)]at bx
  have hlt:=dH (b9 rs.length)
  rw[aC]
  simp only[KP,↓reduceIte,reduceLT,g36,g37,hlt]
  exact key hE _ _ bx _ (by simp +decide only[GS,g0]) (by simp +decide only[GS,g7])
end
end
section
section
variable {E:Env}{Z:Sg}{K:V->Sg->Prop}
theorem vI {Y:Sg}{a b c d:O}{n:Nat}:(Y++[a]++[b]++[c]++[d])[Y.length+n]?=[a,b,c,d][n]?:=by
 rw[cn,cn,cn,bp (by omega),mw]
 rfl
theorem PT {Y:Sg}{a b c d x:O}:(Y++[a]++[b]++[c]++[d]).set (Y.length+2) x=Y++[a]++[b]++[x]++[d]:=by
 rw[cn,cn,cn,lu _ _ (by omega),mw,cn,cn,cn]
 rfl
theorem MU {Y:Sg}{a b c d x:O}:(Y++[a]++[b]++[c]++[d]).set (Y.length+3) x=Y++[a]++[b]++[c]++[x]:=by
 rw[cn,cn,cn,lu _ _ (by omega),mw,cn,cn,cn]
 rfl
theorem JT {Y:Sg}{a b c:O}:(Y++[a]).length=Y.length+1/\(Y++[a]++[b]).length=Y.length+2/\(Y++[a]++[b]++[c]).length=Y.length+3:=by simp
theorem LN (h:bK E) {a:V}{rs:List aD}(ha:LS dO 46 Z a rs)(hs:∀x∈rs,Small x)(hl:rs.length<=4294967296):aB E 115 [a] Z λv σ'=>σ'=Z/\∃nm,v=.gR [.int .i64 (gZ rs),.str nm]:=by
 obtain⟨a',ea,ia⟩:=eJ h ha
 rw[aI h.ZN h.Xh h.aaB h.YS (args':=[a']) (by simp only[aW,ea]),aY (by kernel_rfl)]
 have la:=cZ h ia
 have key:=λhE Y kr ko mr mo bx F g0 g7 g8=>XW (K:=λv σ1=>match cG σ1 E.ty false v with
   |some v=>∃nm,v=.gR [.int .i64 (gZ rs),.str nm]
   |none=>False) (Y:=Y) (kr:=kr) (ko:=ko) (mr:=mr) (mo:=mo) h ia hs hE hl bx F g0 g7 g8 (λnm σ'=>⟨nm,rfl⟩)
 rw[show (aA Tryz.f115).code=.seq (cutAt [0] (aA Tryz.f115).code) (.seq (cutAt [1,0] (aA Tryz.f115).code) (.seq (cutAt [1,1,0] (aA Tryz.f115).code) (.seq (cutAt [1,1,1,0] (aA Tryz.f115).code) (cutAt [1,1,1,1] (aA Tryz.f115).code)))) from rfl]
 have d6:=h.VK
 simp only[aA,Tryz.f115,cutAt,an]at d6
 generalize cutAt [1,1,1,1] (aA Tryz.f115).code=C at key ⊢
 simp only[aA,Tryz.f115,KP,↓reduceIte,reduceLT,reduceCtorEq,lN,cutAt,la]
 refine aS (λi F Y=>F.get 0=a'/\F.get 16=a'/\F.get 17=.int .i64 (rs.length:Int)/\F.get 18=.int .i64 (i:Int)/\∀(j:Nat) (r:aD),j<i->rs[j]?=some r->bE r=0) rs.length ?_ ?_ rs.length 0 _ _ (by omega) (fM (by simp +decide only[GS,ag]) (λj r hj=>by omega))
 ·rintro i F Y hi ⟨g0,g16,g17,g18,hp⟩ next
  obtain⟨r,hr⟩:∃y,rs[i]?=some y:=⟨_,BY hi⟩
  obtain⟨g,p1,p2,p3,p4,e1,i1,i2,i3,i4⟩:=eH h ia hr
  have hsm:=hs r (aa hr)
  have o1:=aN i1.bF
  have o2:=aN i2.bF
  have o3:=aN i3.bF
  have o4:=aN i4.bF
  have hlt:=dG hi
  have hadd:=bQ i (by omega)
  have s1:(Y++[O.cells 46 [.str r.name,p1,p2,p3,p4] true])[Y.length]?=some (O.cells 46 [.str r.name,p1,p2,p3,p4] true):=aL
  have kr:=λ(Y:Sg)=>Sh (Z:=Y) h (v:=.agg [.str r.name,p1,p2,p3,p4]) ⟨p1,p2,p3,p4,rfl,i1,i2,i3,i4⟩ hsm
  rw[aC]
  simp only[KP,Ax.loadAt,Ax.storeAt,↓reduceIte,reduceEqDiff,reduceLT,reduceAdd,h.bM,g16,g17,g18,hlt,e1,o1,o2,o3,o4,aL,cA]
  generalize Y++[O.cells 46 [.str r.name,p1,p2,p3,p4] true]=τ1 at *
  generalize Y.length=y at *
  by_cases he:bE r=0
  ·have q:=AT he
   simp only[KP,↓reduceIte,reduceEqDiff,reduceLT,g18,kr,q,hadd]
   refine next _ _ (fM (by simp +decide only[GS,g0,g16,g17,ag]) (λj x hj hx=>?_))
   rcases bz j i with g | g
   ·exact hp j x g hx
   ·obtain rfl:j=i:=by omega
    rw[hr]at hx;cases hx;exact he
  ·have q:=AS he
   rw[AA hr he λj s hj hx=>hp j s hj hx]
   simp only[KP,Ax.loadAt,↓reduceIte,reduceEqDiff,reduceLT,reduceCtorEq,h.c_,h.bM,s1,kr,q,aK d6,bB]
   exact⟨r.name,rfl⟩
 ·rintro F Y ⟨g0,g16,g17,g18,hp⟩
  have hE:=zB λj s hx=>hp j s (AI.1 hx).1 hx
  have hlt:=dH (b9 rs.length)
  rw[aC]
  by_cases h40:40<rs.length
  ·have q:decide ((40:Int)<(rs.length:Int))=true:=AT (by omega)
   rw[bf h40]at hE
   rw[hE]
   simp only[KP,↓reduceIte,reduceEqDiff,reduceLT,reduceCtorEq,lN,g0,g17,g18,hlt,la,q]
   exact⟨[],rfl⟩
  ·have q:decide ((40:Int)<(rs.length:Int))=false:=AS (by omega)
   rw[az h40]at hE
   have n1:=(JT (Y:=Y) (a:=.map []) (b:=.map []) (c:=.cells 103 [.b_] true)).1
   have n2:=(JT (Y:=Y) (a:=.map []) (b:=.map []) (c:=.cells 103 [.b_] true)).2.1
   have n3:=(JT (Y:=Y) (a:=.map []) (b:=.map []) (c:=.cells 103 [.b_] true)).2.2
   have q1:(Y++[O.map []]++[O.map []]++[O.cells 103 [.b_] true]++[O.cells 103 [.b_] true])[Y.length+2]?=some (O.cells 103 [.b_] true):=vI
   have q2:(Y++[O.map []]++[O.map []]++[O.cells 103 [.mp Y.length] true]++[O.cells 103 [.b_] true])[Y.length+3]?=some (O.cells 103 [.b_] true):=vI
   simp only[KP,Ax.storeAt,↓reduceIte,reduceEqDiff,reduceLT,reduceCtorEq,h.tG,g0,g17,g18,hlt,la,q,n1,n2,n3,q1,q2,PT,MU]
   refine key hE _ (Y.length+2) (Y.length+3) Y.length (Y.length+1) ⟨vI,vI,⟨[],vI (n:=0),Ow⟩,⟨[],vI,Ow⟩,by omega⟩ _ ?_ ?_ ?_
   ·exact (by simp +decide only[GS,g0])
   ·exact (by simp +decide only[GS])
   ·exact (by simp +decide only[GS])
end
end
section
section
variable {E:Env}{Z:Sg}{K:V->Sg->Prop}
theorem EY {lt:List V->List V->Bool} (x:List V):∀l,(C_ lt x l).Perm (x::l)
 | []=>.refl _
 |y::r=>by
  rw[C_]
  split
  ·exact .refl _
  ·exact ((EY x r).cons y).trans (.swap x y r)
theorem Df {lt:List V->List V->Bool}:∀(l acc:List (List V)),(l.foldl (λacc x=>C_ lt x acc) acc).Perm (l++acc)
 | [],acc=>.refl _
 |x::l,acc=>by
  rw[lj]
  refine (Df l _).trans ?_
  exact ((EY x acc).append_left l).trans jr
theorem Jk {lt:List V->List V->Bool} (l:List (List V)):(kY lt l).Perm l:=by
 have:=Df (lt:=lt) l []
 rwa [gz]at this
def GQ:List V->bH
 | [.str s]=>s
 |_=>[]
theorem BK:∀{rs:List (List V)}{l:List bH},dZ aQ.P rs l->rs=l.map λs=>[V.str s]
 |_,_,.nil=>rfl
 |_,_,.cons h t=>by rw[bl,BK t,show _=[V.str _] from h]
theorem Aa:∀l:List bH,dZ aQ.P (l.map λs=>[V.str s]) l
 | []=>.nil
 |_::l=>.cons rfl (Aa l)
theorem Aw:∀l:List bH,((l.map λs=>[V.str s]).flatten).map (λv=>[v])=l.map λs=>[V.str s]
 | []=>rfl
 |s::l=>by simp only[bl,da,eu,Aw l];rfl
theorem Bl:∀{l:List bH},(∀s∈l,s.length<=9223372036854775807)->allRows kQ (l.map λs=>[V.str s])=true
 | [],_=>rfl
 |s::l,h=>by
  have h1:kQ [V.str s]=true:=mc (h s (By ..))
  rw[bl,allRows,h1]
  exact Bl λx hx=>h x (No _ hx)
theorem Ej:∀{rows:List (List V)},(∀r∈rows,∃s,r=[V.str s])->rows=(rows.map GQ).map λs=>[V.str s]
 | [],_=>rfl
 |r::rows,h=>by
  obtain⟨s,e⟩:=h r (By ..)
  rw[bl,bl,<- Ej λx hx=>h x (No _ hx),e]
  rfl
theorem E1 {Z:Sg}{w:V}{l:List bH} (ow:aV aQ 9 Z w l)(hl:l.length<=1000000)(hs:∀s∈l,s.length<=9223372036854775807):∃σ' l',pP 9 [w] Z=some (.gR [],σ')/\l'.Perm l/\aV aQ 9 σ' w l'/\Sp Z σ' w/\σ'.length=Z.length:=by
 rcases ow with⟨rfl,rfl⟩ | ⟨b,rs,ex,rfl,hb,ha⟩
 ·exact⟨Z,[],rfl,.refl _,.inl ⟨rfl,rfl⟩,Sp.refl _ _,rfl⟩
 ·obtain rfl:=BK ha
  have hp:(kY strLt (l.map λs=>[V.str s])).Perm (l.map λs=>[V.str s]):=Jk _
  have he:((kY strLt (l.map λs=>[V.str s])).map GQ).Perm l:=by
   have:=hp.map GQ
   rwa [ku,show GQ ∘ (λs=>[V.str s])=id from rfl,List.map_id]at this
  have hr:kY strLt (l.map λs=>[V.str s])=((kY strLt (l.map λs=>[V.str s])).map GQ).map λs=>[V.str s]:=by
   refine Ej λr hr=>?_
   obtain⟨s,-,e⟩:=cm.1 (hp.mem_iff.1 hr)
   exact⟨s,e.symm⟩
  have hlen:((l.map λs=>[V.str s]).flatten).length=l.length:=by
   have:=au List.length (Aw l)
   rwa [bg,bg]at this
  refine⟨Z.set b (.cells 9 (kY strLt (l.map λs=>[V.str s])).flatten ex),_,?_,he,.inr ⟨b,_,ex,?_,?_,Aa _⟩,?_,?_⟩
  ·unfold pP
   simp only[hb,Aw,Bl hs,show Nat.beq 9 9=true from rfl,hlen,mc hl,show Nat.beq l.length l.length=true from Nat.beq_refl _]
  ·rw[bg,hp.length_eq,bg]
  ·rw[bj (AI.1 hb).1,<- hr]
  ·intro c o hc hn
   rw[IT (λe=>hn (by rw[<- e];rfl))]
   exact hc
  ·rw[ec]
end
end
section
section
variable {E:Env}{Z:Sg}{K:V->Sg->Prop}
def OL (Y:Sg) (v:V) (l:List bH):Prop:=(v=.aF/\l=[])\/∃b cs ex,v=.sl b 0 l.length none/\Y[b]?=some (.cells 9 cs ex)/\cs.take l.length=l.map V.str
theorem Dk:∀l:List bH,(l.map λs=>[V.str s]).flatten=l.map V.str
 | []=>rfl
 |s::l=>by simp only[bl,da,Dk l];rfl
theorem HU (h:bK E) {b off n k:Nat}(hk:k<n):indexAddr E 24 (.sl b off n none) (.int .i64 (k:Int))=some (.ref b (off+k)):=by
 unfold Ax.indexAddr
 simp only[h.bC,h.c_,show ¬ ((k:Int)<0) by omega,ay,cv,hk,bh,mj]
theorem Lh (h:bK E) {Y:Sg}{b j:Nat}{A:List bH}{ex:Bool}{s:bH}(hb:Y[b]?=some (O.cells 9 (A.map V.str) ex))(hj:A[j]?=some s):loadAt E Y 9 (.ref b j)=some (.str s):=by
 unfold Ax.loadAt
 have e:(A.map V.str)[j]?=some (.str s):=by rw[mm,hj];rfl
 simp only[h.c_,hb,e,Ax.isAgg]
 rfl
theorem x_:∀(A:List bH) (j:Nat) (s:bH),j<A.length->setCells (A.map V.str) j [.str s]=(A.set j s).map V.str
 | [],_,_,h=>absurd h (by simp)
 |a::A,0,s,_=>rfl
 |a::A,j+1,s,h=>by
  have:=x_ A j s (by simpa using h)
  simp only[bl,nh,<- this]
  rfl
theorem Wu (h:bK E) {Y:Sg}{b j:Nat}{A:List bH}{ex:Bool}{s:bH}(hb:Y[b]?=some (O.cells 9 (A.map V.str) ex))(hj:j<A.length):storeAt E Y 9 (.ref b j) (.str s)=some (Y.set b (O.cells 9 ((A.set j s).map V.str) ex)):=by
 unfold Ax.storeAt
 have e:decide (j+1<=(A.map V.str).length)=true:=AT (by rw[bg];omega)
 simp only[h.c_,hb,V.cells,af,b8,ig,js,V.aZ,e,x_ A j s hj]
 rfl
theorem Ps (h:bK E) {Y:Sg}{b off n:Nat}:lenOf E Y 24 (.sl b off n none)=some n:=by unfold lenOf;rw[h.bC]
theorem LA (h:bK E) {Y:Sg}{b n k:Nat}{A:List bH}{ex:Bool}(hb:Y[b]?=some (O.cells 9 (A.map V.str) ex))(hn:n=A.length)(hk:k<n):Ax.slice E Y 24 (.sl b 0 n none) (some (.int .i64 (k:Int))) none none=some (.sl b k (n-k) none):=by
 unfold Ax.slice
 simp only[h.bC,h.c_,hb,bound,show decide (0<=(k:Int))=true from AT (by omega),show decide ((k:Int)<=(n:Int))=true from AT (by omega),qd,bh,cv,dj]
 show (if (1:Nat)=0 then none else if (!(9==9))=true then none else if k*1<(A.map V.str).length then some (V.sl b (k*1) (n-k) none) else _)=_
 rw[az (by decide),az (by decide),bf (by rw[bg];omega),mj]
theorem QW (h:bK E) {Y:Sg}{b n k:Nat}{cs:List V}{ex:Bool}(hb:Y[b]?=some (.cells 9 cs ex))(hn:n=cs.length)(hk:k<n):Ax.slice E Y 24 (.sl b 0 n none) none (some (.int .i64 (k:Int))) none=some (.sl b 0 k none):=by
 unfold Ax.slice
 simp only[h.bC,h.c_,hb,bound,GV,show decide (0<=(k:Int))=true from AT (by omega),cv,ir,kq,o5,jf]
 show (if (1:Nat)=0 then none else if (!(9==9))=true then none else match if decide ((k:Int)<=((cs.length / 1:Nat):Int))=true then some k else none with
  |none=>none
  |some h=>if 0<cs.length then some (V.sl b 0 h none) else _)=_
 rw[az (by decide),az (by decide),bf (by rw[Nat.div_one];exact AT (by omega))]
 show (if 0<cs.length then some (V.sl b 0 k none) else _)=_
 rw[bf (by omega)]
theorem P8 (h:bK E) {Y:Sg}{b n k:Nat}{A:List bH}{ex:Bool}(hb:Y[b]?=some (O.cells 9 (A.map V.str) ex))(hn:n=A.length)(hk:k<n):∃cs,Ax.builtin E Y .clear #[24] [.sl b k (n-k) none]=some (.gR [],Y.set b (.cells 9 cs ex))/\cs.take k=(A.take k).map V.str/\cs.length=n:=by
 have hne:¬ n-k=0:=by omega
 have hle:decide (k+(n-k)*1<=(A.map V.str).length)=true:=AT (by rw[bg];omega)
 refine⟨setCells (A.map V.str) k (fR (n-k) [.str []]),?_,?_,?_⟩
 ·unfold Ax.builtin
  show (match E.ty 24 with
   |some { kd:=.sl e,.. }=>match E.ty e,Y[b]? with
    |some i,some (.cells u cs ex)=>
     if n-k=0 then some (V.gR [],Y)
     else if u==e&&decide (k+(n-k)*i.size<=cs.length) then some (V.gR [],Y.set b (.cells u (setCells cs k (fR (n-k) i.zero.cells)) ex)) else none
    |_,_=>none
   |_=>none)=_
  simp only[h.bC,h.c_,hb,hne,ay]
  rw[hle]
  rfl
 ·rw[List.map_take]
  clear hle hne
  unfold setCells
  rw[cn,List.take_append_of_le_length (by rw[br,bg];omega),pn,Nat.min_self]
 ·have hr:∀m,(fR m [V.str []]).length=m:=λm=>by
   induction m with
   |zero=>rfl
   |succ m ih=>rw[fR,ak,ih];simp;omega
  unfold setCells
  simp only[ak,br,od,bg,hr]
  omega
end
end
section
section
variable {E:Env}{Z:Sg}{K:V->Sg->Prop}
theorem Sp.set {Z Y:Sg}{w:V}{b:Nat}{y:O}(h:Sp Z Y w)(hb:aR w=some b):Sp Z (Y.set b y) w:=λc o hc hn=>by
 rw[IT (λe=>hn (by rw[hb,e]))]
 exact h c o hc hn
theorem gE {l:List bH}{k:Nat}{u:bH}(hu:l[k]?=some u) (x:bH):x∈l.take (k+1) ↔ x∈l.take k\/x=u:=by
 rw[dn,hu];simp
theorem Nu (h:bK E) {w:V}{l:List bH} (ow:aV aQ 9 Z w l)(hl:l.length<=1000000):aB E 118 [w] Z λv σ'=>(∃l',OL σ' v l'/\l'.length<=l.length/\∀x,x∈l' ↔ x∈l)/\(∀c,aR v=some c->aR w=some c)/\Sp Z σ' w/\σ'.length=Z.length:=by
 rw[dR h.ZK h.Xe h.aay h.YP,aY (by kernel_rfl)]
 rcases ow with⟨rfl,rfl⟩ | ⟨b,rs,ex,rfl,hb,ha⟩
 ·have ln:lenOf E Z 24 .aF=some 0:=by unfold lenOf;rw[h.bC]
  simp only[aA,Tryz.f118,KP,↓reduceIte,reduceLT,reduceCtorEq,Int.reduceLT,ln]
  exact⟨⟨[],.inl ⟨rfl,rfl⟩,ae _,λx=>mh⟩,λc hc=>hc,Sp.refl _ _⟩
 obtain rfl:=BK ha
 rw[Dk]at hb
 have hls:OL Z (.sl b 0 l.length none) l:=.inr ⟨b,_,ex,rfl,hb,ah (by rw[bg];exact ae _)⟩
 have lw:∀Y,lenOf E Y 24 (.sl b 0 l.length none)=some l.length:=λY=>Ps h
 by_cases h2:l.length<2
 ·have q:decide ((l.length:Int)<2)=true:=AT (by omega)
  simp only[aA,Tryz.f118,KP,↓reduceIte,reduceLT,reduceCtorEq,lw,q]
  exact⟨⟨l,hls,ae _,λx=>mh⟩,λc hc=>hc,Sp.refl _ _⟩
 have q:decide ((l.length:Int)<2)=false:=AS (by omega)
 have d6:=h.VJ
 simp only[aA,Tryz.f118,cutAt,an]at d6
 have d11:=h.SP
 simp only[aA,Tryz.f118,cutAt,an]at d11
 simp only[aA,Tryz.f118,KP,↓reduceIte,reduceLT,reduceCtorEq,lw,q]
 refine aS (λi F Y=>Y=Z/\F.get 0=.sl b 0 l.length none/\F.get 3=.int .i64 ((i+1:Nat):Int)) (l.length-1) ?_ ?_ (l.length-1) 0 _ _ (by omega) ⟨rfl,(by simp +decide only[GS]),(by simp +decide only[GS];rfl)⟩
 ·rintro i F Y hi ⟨rfl,g0,g3⟩ next
  obtain⟨x,hx⟩:∃x,l[i+1]?=some x:=⟨_,BY (by omega)⟩
  obtain⟨y,hy⟩:∃y,l[i]?=some y:=⟨_,BY (by omega)⟩
  have hlt:=dG (show i+1<l.length by omega)
  have hdn:=Eg (i+1) (by omega) (by omega)
  rw[nq]at hdn
  have hadd:=bQ (i+1) (by omega)
  have e1:=HU (b:=b) (off:=0) h (show i+1<l.length by omega)
  have e2:=HU (b:=b) (off:=0) h (show i<l.length by omega)
  rw[dj]at e1 e2
  have e3:=Lh h hb hx
  have e4:=Lh h hb hy
  rw[aC]
  by_cases hxy:x=y
  case neg=>
   have hs:=gU hxy
   simp only[KP,↓reduceIte,reduceEqDiff,reduceLT,reduceCtorEq,g0,g3,lw,hlt,hdn,hadd,e1,e2,e3,e4,hs,aK d6,bB]
   exact next _ _ ⟨rfl,(by simp +decide only[GS,g0,ag])⟩
  have hs:=iS hxy
  have e5:=LA h hb rfl (show i+1<l.length by omega)
  simp only[KP,↓reduceIte,reduceEqDiff,reduceLT,reduceCtorEq,g0,g3,lw,hlt,hdn,e1,e2,e3,e4,e5,hs,aK d6,bB]
  have hly:y∈l.take (i+1):=aa (by rw[fu (je i)];exact hy)
  have bo:aR (.sl b 0 l.length none)=some b:=rfl
  have lw2:∀Y,lenOf E Y 24 (.sl b (i+1) (l.length-(i+1)) none)=some (l.length-(i+1)):=λY=>Ps h
  refine aS (λj F τ'=>F.get 0=.sl b 0 l.length none/\F.get 4=.sl b (i+1) (l.length-(i+1)) none/\F.get 5=.int .i64 ((j+1:Nat):Int)/\Sp Y τ' (.sl b 0 l.length none)/\τ'.length=Y.length/\∃(A:List bH) (K:Nat),τ'[b]?=some (O.cells 9 (A.map V.str) ex)/\A.length=l.length/\F.get 3=.int .i64 (K:Int)/\i+1<=K/\K<=i+1+j/\(∀p,i+1+j<=p->A[p]?=l[p]?)/\∀x,x∈A.take K ↔ x∈l.take (i+1+j+1)) (l.length-(i+1)-1) ?_ ?_ (l.length-(i+1)-1) 0 _ _ (by omega) (lV (by simp +decide only[GS,g0,ag]) ⟨(by simp +decide only[GS];rfl),Sp.refl _ _,rfl,l,i+1,hb,rfl,(by simp +decide only[GS,g3]),ae _,ae _,λp _=>rfl,λz=>by
   rw[gE (k:=i+1+0) (u:=x) hx]
   constructor
   ·exact .inl
   ·rintro (g | rfl)
    ·exact g
    ·rw[hxy];exact hly⟩)
  ·rintro j F τ' hj ⟨g0,g4,g5,sp,hlen,A,K,hA,hAl,g3,hK1,hK2,hag,hmem⟩ next2
   obtain⟨u,hu⟩:∃u,l[i+1+j+1]?=some u:=⟨_,BY (by omega)⟩
   obtain⟨v,hv⟩:∃v,l[i+1+j]?=some v:=⟨_,BY (by omega)⟩
   have hu':A[i+1+(j+1)]?=some u:=(hag _ (by omega)).trans hu
   have hv':A[i+1+j]?=some v:=(hag _ (by omega)).trans hv
   have hlt2:=dG (show j+1<l.length-(i+1) by omega)
   have hdn2:=Eg (j+1) (by omega) (by omega)
   rw[nq]at hdn2
   have hadd2:=bQ (j+1) (by omega)
   have hadd3:=bQ K (by omega)
   have f1:=HU (b:=b) (off:=i+1) h (show j+1<l.length-(i+1) by omega)
   have f2:=HU (b:=b) (off:=i+1) h (show j<l.length-(i+1) by omega)
   have f3:=Lh h hA hu'
   have f4:=Lh h hA hv'
   have f5:=HU (b:=b) (off:=0) h (show K<l.length by omega)
   rw[dj]at f5
   have f6:=Wu (s:=u) h hA (show K<A.length by omega)
   have hms:∀z,z∈l.take (i+1+(j+1)+1) ↔ z∈l.take (i+1+j+1)\/z=u:=gE hu
   rw[aC]
   by_cases huv:u=v
   ·have hs2:=iS huv
    simp only[KP,↓reduceIte,reduceEqDiff,reduceLT,g4,g5,lw2,hlt2,hdn2,hadd2,f1,f2,f3,f4,hs2,aK d11,bB]
    refine next2 _ _ (fJ (by simp +decide only[GS,g0,g4,ag]) ⟨sp,hlen,A,K,hA,hAl,(by simp +decide only[GS,g3]),hK1,by omega,λp hp=>hag p (by omega),λz=>?_⟩)
    rw[hms,hmem]
    constructor
    ·exact .inl
    ·rintro (g | rfl)
     ·exact g
     ·rw[huv]
      exact aa (by rw[fu (je (i+1+j))];exact hv)
   ·have hs2:=gU huv
    simp only[KP,↓reduceIte,reduceEqDiff,reduceLT,reduceCtorEq,g0,g3,g4,g5,lw2,hlt2,hdn2,hadd2,hadd3,f1,f2,f3,f4,f5,f6,hs2,aK d11,bB]
    refine next2 _ _ (fJ (by simp +decide only[GS,g0,g4,ag]) ⟨Sp.set sp bo,by rw[ec];exact hlen,A.set K u,K+1,by rw[bj (AI.1 hA).1],by rw[ec];exact hAl,(by simp +decide only[GS]),by omega,by omega,λp hp=>?_,λz=>?_⟩)
    ·rw[IT (by omega)];exact hag p (by omega)
    ·rw[hms,<- hmem,gE (u:=u) (by rw[bj (by omega)]),List.take_set_of_le (ae K)]
  ·rintro F τ' ⟨g0,g4,g5,sp,hlen,A,K,hA,hAl,g3,hK1,hK2,hag,hmem⟩
   have hlt2:=dH (show ¬ l.length-(i+1)-1+1<l.length-(i+1) by omega)
   have f1:=LA h hA hAl.symm (show K<l.length by omega)
   obtain⟨cs,f2,f3,f4⟩:=P8 h hA hAl.symm (show K<l.length by omega)
   have hA2:(τ'.set b (.cells 9 cs ex))[b]?=some (.cells 9 cs ex):=by rw[bj (AI.1 hA).1]
   have f5:=QW h hA2 f4.symm (show K<l.length by omega)
   have hKl:(A.take K).length=K:=by rw[br];omega
   rw[aC]
   simp only[KP,↓reduceIte,reduceEqDiff,reduceLT,reduceCtorEq,g0,g3,g4,g5,lw2,hlt2,f1,f2,f5]
   refine⟨⟨A.take K,.inr ⟨b,cs,ex,by rw[hKl],hA2,by rw[hKl];exact f3⟩,by rw[hKl];omega,λz=>?_⟩,λc hc=>hc,Sp.set sp bo,by rw[ec];exact hlen⟩
   ·rw[hmem,show i+1+(l.length-(i+1)-1)+1=l.length by omega,ah (ae _)]
 ·rintro F Y ⟨rfl,g0,g3⟩
  have hlt:=dH (show ¬ l.length-1+1<l.length by omega)
  rw[aC]
  simp only[KP,↓reduceIte,reduceEqDiff,reduceLT,reduceCtorEq,g0,g3,lw,hlt]
  exact⟨⟨l,hls,ae _,λx=>mh⟩,λc hc=>hc,Sp.refl _ _⟩
end
end
section
section
variable {E:Env}{Z:Sg}{K:V->Sg->Prop}
def MK (get:bH->Option V) (P:bH->bH->Prop):Prop:=∀k,(get k=none/\∀n,¬ P k n)\/∃n,P k n/\get k=some (.str n)
theorem MK.nil:MK (λ_=>none) λ_ _=>False:=λ_=>.inl ⟨rfl,λ_ h=>h⟩
theorem MK.put {get:bH->Option V}{P:bH->bH->Prop}(h:MK get P) (k n:bH):MK (λq=>if q=k then some (.str n) else get q) λq m=>P q m\/(q=k/\m=n):=λq=>by
 by_cases hq:q=k
 ·exact .inr ⟨n,.inr ⟨hq,rfl⟩,bf hq⟩
 ·rcases h q with⟨h1,h2⟩ | ⟨m,h1,h2⟩
  ·exact .inl ⟨(az hq).trans h1,λm hm=>hm.elim (h2 m) λg=>hq g.1⟩
  ·exact .inr ⟨m,.inl h1,(az hq).trans h2⟩
theorem MK.congr {get:bH->Option V}{P Q:bH->bH->Prop}(h:MK get P) (e:∀k n,P k n ↔ Q k n):MK get Q:=λk=>by
 rcases h k with⟨h1,h2⟩ | ⟨n,h1,h2⟩
 ·exact .inl ⟨h1,λn hn=>h2 n ((e k n).2 hn)⟩
 ·exact .inr ⟨n,(e k n).1 h1,h2⟩
theorem RT (h:bK E) {Z:Sg}{x:V}{es:List (V × V)}{get:bH->Option V}(hx:entriesOf Z x=some es)(hs:SM E es get) (k:bH):lookup E Z 91 x (.str k) true=some (match get k with | some v=>.gR [v,.bool true] | none=>.gR [.str [],.bool false]):=by
 have hk:eI E 9 (.str k)=true:=by unfold eI;rw[h.c_]
 unfold Ax.lookup
 simp only[h.GU,h.c_,hk,hx,hs.2 k,dh,ai,ay]
 cases get k <;> rfl
theorem T4 (h:bK E) {Z:Sg}{b:Nat}{es:List (V × V)}{get:bH->Option V}(hb:Z[b]?=some (.map es))(hs:SM E es get) (k n:bH):∃es',mapUpdate E Z 91 (.mp b) (.str k) (.str n)=some (Z.set b (.map es'))/\SM E es' λq=>if q=k then some (.str n) else get q:=by
 obtain⟨es',h1,h2⟩:=FI h (v:=.str n) k rfl hs
 have hk:eI E 9 (.str k)=true:=by unfold eI;rw[h.c_]
 refine⟨es',?_,h2⟩
 unfold Ax.mapUpdate
 simp only[h.GU,hk,hb,h1,fI,V.aZ,dh,iu,ai,ay,bw]
def Mk (rs:List aD) (k n:bH):Prop:=∃r∈rs,k∈r.outs/\n=r.name
theorem LU {rs:List aD}{i:Nat}{r:aD}(hr:rs[i]?=some r) (k n:bH):Mk (rs.take (i+1)) k n ↔ Mk (rs.take i) k n\/(k∈r.outs/\n=r.name):=by
 unfold Mk
 rw[dn,hr]
 simp only[bt,Option.toList_some,cj]
 constructor
 ·rintro⟨q,hq | rfl,h⟩
  ·exact .inl ⟨q,hq,h⟩
  ·exact .inr h
 ·rintro (⟨q,hq,h⟩ | h)
  ·exact⟨q,.inl hq,h⟩
  ·exact⟨r,.inr rfl,h⟩
theorem Yf (h:bK E) {a:V}{rs:List aD} (ia:IS dO a rs)(hs:∀x∈rs,Small x)(hl:rs.length<=4294967296) (F:FT) (g0:F.get 0=a) (g3:F.get 3=.mp 0)
  (hk:∀F' Y es get,F'.get 0=a->F'.get 3=.mp 0->Y[0]?=some (.map es)->SM E es get->MK get (Mk rs)->R E (cutAt [1,1,1] (aA Tryz.f154).code) [] ⟨74,F'⟩ Y (mS E (aA Tryz.f154).results K)) :
  R E (cutAt [1,1] (aA Tryz.f154).code) [] ⟨74,F⟩ [.map []] (mS E (aA Tryz.f154).results K):=by
 have la:=cZ h ia
 rw[show cutAt [1,1] (aA Tryz.f154).code=.seq (cutAt [1,1,0] (aA Tryz.f154).code) (cutAt [1,1,1] (aA Tryz.f154).code) from rfl]
 generalize cutAt [1,1,1] (aA Tryz.f154).code=C at hk ⊢
 simp only[aA,Tryz.f154,KP,↓reduceIte,reduceLT,cutAt,g0,la]
 refine aS (λi F Y=>F.get 0=a/\F.get 3=.mp 0/\F.get 17=a/\F.get 18=.int .i64 (rs.length:Int)/\F.get 19=.int .i64 (i:Int)/\∃es get,Y[0]?=some (.map es)/\SM E es get/\MK get (Mk (rs.take i))) rs.length ?_ ?_ rs.length 0 _ _ (by omega) (iY (by simp +decide only[GS,g0,g3,ag]) ⟨[],λ_=>none,rfl,Jo,MK.nil.congr λk n=>⟨λh=>h.elim,λ⟨r,hr,_⟩=>by cases hr⟩⟩)
 ·rintro i F Y hi ⟨g0,g3,g17,g18,g19,es,get,hb,hsm,hmk⟩ next
  obtain⟨r,hr⟩:∃y,rs[i]?=some y:=⟨_,BY hi⟩
  obtain⟨g,p1,p2,p3,p4,e1,i1,i2,i3,i4⟩:=eH h ia hr
  have hsr:=hs r (aa hr)
  have a2:=hsr.outs
  have o1:=aN i1.bF
  have o2:=aN i2.bF
  have o3:=aN i3.bF
  have o4:=aN i4.bF
  have hlt:=dG hi
  have hadd:=bQ i (by omega)
  have lo:=bU h i2
  have hb1:=aJ (x:=O.cells 46 [.str r.name,p1,p2,p3,p4] true) hb
  have s1:(Y++[O.cells 46 [.str r.name,p1,p2,p3,p4] true])[Y.length]?=some (O.cells 46 [.str r.name,p1,p2,p3,p4] true):=aL
  rw[aC]
  simp only[KP,Ax.loadAt,Ax.storeAt,↓reduceIte,reduceEqDiff,reduceLT,reduceAdd,reduceCtorEq,h.bC,h.bM,g17,g18,g19,hlt,e1,o1,o2,o3,o4,aL,cA]
  generalize Y++[O.cells 46 [.str r.name,p1,p2,p3,p4] true]=τ1 at *
  generalize Y.length=y at *
  simp only[KP,↓reduceIte,reduceLT,lo]
  refine aS (λj F Y=>F.get 0=a/\F.get 3=.mp 0/\F.get 17=a/\F.get 18=.int .i64 (rs.length:Int)/\F.get 19=.int .i64 (i:Int)/\F.get 5=.ref y 0/\F.get 24=p2/\F.get 25=.int .i64 (r.outs.length:Int)/\F.get 26=.int .i64 (j:Int)/\Y[y]?=some (O.cells 46 [.str r.name,p1,p2,p3,p4] true)/\∃es get,Y[0]?=some (.map es)/\SM E es get/\MK get λk n=>Mk (rs.take i) k n\/(k∈r.outs.take j/\n=r.name)) r.outs.length ?_ ?_ r.outs.length 0 _ _ (by omega) (zJ (by simp +decide only[GS,g0,g3,g17,g18,g19,ag]) ⟨s1,es,get,hb1,hsm,hmk.congr λk n=>by simp⟩)
  ·rintro j F Y hj ⟨g0,g3,g17,g18,g19,g5,g24,g25,g26,s1,es,get,hb,hsm,hmk⟩ next2
   obtain⟨s,hsj⟩:∃y,r.outs[j]?=some y:=⟨_,BY hj⟩
   obtain⟨g',e2⟩:=g_ h i2 hsj
   have hlt2:=dG hj
   have hadd2:=bQ j (by omega)
   obtain⟨es',hu,hsm'⟩:=T4 h hb hsm s r.name
   have hy0:0≠y:=qC hb s1 (by intro e;cases e)
   rw[aC]
   simp only[KP,Ax.loadAt,↓reduceIte,reduceEqDiff,reduceLT,reduceCtorEq,h.c_,h.bM,g3,g5,g24,g25,g26,hlt2,e2,s1,hu,hadd2]
   refine next2 _ _ (zJ (by simp +decide only[GS,g0,g3,g17,g18,g19,g5,g24,g25,ag]) ⟨by rw[IT hy0];exact s1,es',_,by rw[bj (AI.1 hb).1],hsm',(hmk.put s r.name).congr λk n=>?_⟩)
   rw[gE hsj]
   constructor
   ·rintro ((h1 | h1) | h1)
    ·exact .inl h1
    ·exact .inr ⟨.inl h1.1,h1.2⟩
    ·exact .inr ⟨.inr h1.1,h1.2⟩
   ·rintro (h1 | ⟨h1 | h1,h2⟩)
    ·exact .inl (.inl h1)
    ·exact .inl (.inr ⟨h1,h2⟩)
    ·exact .inr ⟨h1,h2⟩
  ·rintro F Y ⟨g0,g3,g17,g18,g19,g5,g24,g25,g26,s1,es,get,hb,hsm,hmk⟩
   rw[ah (ae _)]at hmk
   have hlt2:=dH (b9 r.outs.length)
   rw[aC]
   simp only[KP,↓reduceIte,reduceEqDiff,reduceLT,g19,g25,g26,hlt2,hadd]
   exact next _ _ (iY (by simp +decide only[GS,g0,g3,g17,g18,ag]) ⟨es,get,hb,hsm,hmk.congr λk n=>(LU hr k n).symm⟩)
 ·rintro F Y ⟨g0,g3,g17,g18,g19,es,get,hb,hsm,hmk⟩
  rw[ah (ae _)]at hmk
  have hlt:=dH (b9 rs.length)
  rw[aC]
  simp only[KP,↓reduceIte,reduceLT,g18,g19,hlt]
  exact hk _ _ es get (by simp +decide only[GS,g0]) (by simp +decide only[GS,g3]) hb hsm hmk
end
end
section
section
variable {E:Env}{Z:Sg}{K:V->Sg->Prop}
theorem OL.keep {Z Y:Sg}{v:V}{l:List bH}(h:OL Z v l) (k:∀(c:Nat) (o:O),aR v=some c->Z[c]?=some o->Y[c]?=some o):OL Y v l:=by
 rcases h with h | ⟨b,cs,ex,rfl,hb,ht⟩
 ·exact .inl h
 ·exact .inr ⟨b,cs,ex,rfl,k b _ rfl hb,ht⟩
theorem OL.ok {Z:Sg}{v:V}{l:List bH}(h:OL Z v l):fI v=true:=by
 rcases h with⟨rfl,-⟩ | ⟨b,cs,ex,rfl,-⟩ <;> rfl
def TT (v:V) (l:List bH):Prop:=(v=.aF/\l=[])\/∃full,v=.bS false (l.map λs=>[V.str s]) full
theorem pF:∀l:List bH,Ax.rows 1 l.length (l.map V.str)=l.map λs=>[V.str s]
 | []=>rfl
 |s::l=>by
  rw[af,bl,Ax.rows,bl]
  exact au _ (pF l)
theorem OL.snap (h:bK E) {Z:Sg}{v:V}{l:List bH}{m:Nat}(ho:OL Z v l):∃v',bG Z E.ty false (m+2) v=some v'/\TT v' l:=by
 rcases ho with⟨rfl,rfl⟩ | ⟨b,cs,ex,rfl,hb,ht⟩
 ·exact⟨.aF,rfl,.inl ⟨rfl,rfl⟩⟩
 ·have hle:l.length<=cs.length:=by
   have:=au List.length ht
   rw[br,bg]at this
   omega
  have ht1:cs.take (l.length*1)=l.map V.str:=by rw[mj];exact ht
  obtain⟨full,e⟩:=G6 (g:=false) (n:=l.length) (m:=m) hb h.c_ (show l.length*1<=_ by omega) (λc hcm=>by
   rw[show cs.take (l.length*1)=l.map V.str from ht1]at hcm
   obtain⟨s,-,rfl⟩:=cm.1 hcm
   exact⟨rfl,rfl⟩)
  refine⟨_,e,.inr ⟨full,?_⟩⟩
  show V.bS false (Ax.rows 1 l.length (cs.take (l.length*1))) full=_
  rw[ht1,pF]
theorem TT.tag {v:V}{l:List bH}(h:TT v l):bT false v=true:=by
 rcases h with⟨rfl,-⟩ | ⟨full,rfl⟩ <;> rfl
def DP (Y:Sg) (N:aD->bH->Prop) (es:List (V × V)) (rs:List aD):Prop:=dZ (λe r=>e.1=V.str r.name/\∃l,OL Y e.2 l/\l.length<=1000000/\∀x,x∈l ↔ N r x) es rs
def BG (N:aD->bH->Prop) (es:List (V × V)) (rs:List aD):Prop:=dZ (λe r=>e.1=V.str r.name/\∃l,TT e.2 l/\l.length<=1000000/\∀x,x∈l ↔ N r x) es rs
theorem DP.keep {Z Y:Sg}{N:aD->bH->Prop}{mA:Nat}{em:List (V × V)}{es:List (V × V)}{rs:List aD}(h:DP Z N es rs)(hm:Z[mA]?=some (.map em)) (k:∀(c:Nat) (o:O),Z[c]?=some o->c≠mA->Y[c]?=some o):DP Y N es rs:=by
 refine dZ.imp h λe r ⟨h1,l,h2,h3⟩=>⟨h1,l,h2.keep λc o hc ho=>k c o ho ?_,h3⟩
 rintro rfl
 rcases h2 with⟨e0,-⟩ | ⟨b,cs,ex,e0,hb,-⟩
 ·rw[e0]at hc;cases hc
 ·rw[e0]at hc
  cases hc
  rw[hm]at hb
  cases hb
theorem CP (h:bK E) {k:bH}{v:V}:∀{es:List (V × V)},(∀e∈es,∃q,e.1=V.str q/\q≠k)->kI (eC E 9) (.str k) v es=some (es++[(.str k,v)])
 | [],_=>rfl
 |(k0,v0)::es,hs=>by
  obtain⟨q,e1,hq⟩:=hs _ (By ..)
  dsimp only at e1
  subst e1
  rw[kI,cE h,gU (ju hq)]
  simp only[CP h λe he=>hs e (No _ he)]
  rfl
theorem QY (h:bK E) {Y:Sg}{b:Nat}{N:aD->bH->Prop}{es:List (V × V)}{rs:List aD}{r:aD}{v:V}{l:List bH}(hb:Y[b]?=some (.map es))(ha:DP Y N es rs)(hn:∀q∈rs,q.name≠r.name)(hv:OL Y v l)(hl:l.length<=1000000)(hm:∀x,x∈l ↔ N r x) :
  mapUpdate E Y 101 (.mp b) (.str r.name) v=some (Y.set b (.map (es++[(.str r.name,v)])))/\DP (Y.set b (.map (es++[(.str r.name,v)]))) N (es++[(.str r.name,v)]) (rs++[r]):=by
 have hk:eI E 9 (.str r.name)=true:=by unfold eI;rw[h.c_]
 have hp:=CP (v:=v) (k:=r.name) h (es:=es) λe he=>by
  obtain⟨q,hq,h1,-⟩:=dZ.mem ha he
  exact⟨q.name,h1,hn q hq⟩
 have hkeep:∀(c:Nat) (o:O),Y[c]?=some o->c≠b->(Y.set b (.map (es++[(.str r.name,v)])))[c]?=some o:=λc o hc hcb=>by
  rw[IT (ju hcb)];exact hc
 refine⟨?_,?_⟩
 ·unfold Ax.mapUpdate
  simp only[h.Ws,hk,hb,hp,hv.ok,dh,iu,ai,ay,bw]
 ·refine dZ.append (ha.keep hb hkeep) (.cons ⟨rfl,l,hv.keep λc o hc ho=>hkeep c o ho ?_,hl,hm⟩ .nil)
  rintro rfl
  rcases hv with⟨e0,-⟩ | ⟨b',cs,ex,e0,hb',-⟩
  ·rw[e0]at hc;cases hc
  ·rw[e0]at hc
   cases hc
   rw[hb]at hb'
   cases hb'
theorem On (h:bK E) {Y:Sg}{b:Nat}{N:aD->bH->Prop}{es:List (V × V)}{rs:List aD}(hb:Y[b]?=some (.map es))(ha:DP Y N es rs):∃es',cG Y E.ty false (.mp b)=some (.imp false es')/\BG N es' rs:=by
 have key:∀{es:List (V × V)}{rs:List aD},DP Y N es rs->∃es',aW (λ(e:V × V)=>if e.1.cells.all Ax.plainCell then (match e.2 with
   | .agg cs=>match aW (λv=>match bG Y E.ty false 11 v with
     |some v=>if bT false v then some v else Ax.no "snap: borrowed"
     |none=>none) cs with
    |some cs=>some (e.1,V.agg cs)
    |none=>none
   |v=>match (match bG Y E.ty false 11 v with
     |some v=>if bT false v then some v else Ax.no "snap: borrowed"
     |none=>none) with
    |some v=>some (e.1,v)
    |none=>none) else none) es=some es'/\BG N es' rs:=by
  intro es rs ha
  induction ha with
  |nil=>exact⟨[],rfl,.nil⟩
  | @cons e r es rs h1 _ ih=>
   obtain⟨es',e1,a1⟩:=ih
   obtain⟨a,v⟩:=e
   obtain⟨h2,l,h3,h4,h5⟩:=h1
   dsimp only at h2 h3
   subst h2
   obtain⟨v',e2,sv⟩:=h3.snap (m:=9) h
   refine⟨(.str r.name,v')::es',?_,.cons ⟨rfl,l,sv,h4,h5⟩ a1⟩
   rw[aW]
   have hpc:(V.str r.name).cells.all Ax.plainCell=true:=rfl
   have ht:=sv.tag
   rcases h3 with⟨rfl,-⟩ | ⟨b',cs,ex,rfl,-⟩
   ·simp only[hpc,bh,e2,ht,e1]
   ·simp only[hpc,bh,e2,ht,e1]
 obtain⟨es',e1,a1⟩:=key ha
 refine⟨es',?_,a1⟩
 have e:bG Y E.ty false 12 (.mp b)=some (.imp false es'):=by
  rw[bG]
  simp only[hb]
  exact au (λo=>match o with
   |some l=>some (V.imp false l)
   |none=>none) e1
 show aT.one Y E.ty false (.mp b)=_
 unfold aT.one
 rw[show dN=12 from rfl,e]
 rfl
end
end
section
section
variable {E:Env}{Z:Sg}{K:V->Sg->Prop}
theorem U0 (h:bK E) {τ0 Y:Sg}{w p1 p2 p3 p4:V}{l:List bH}{r:aD}{y mA:Nat}{es:List (V × V)}{N:aD->bH->Prop}{rs:List aD} (ow:aV aQ 9 Y w l)(hl:l.length<=1000000) (kp:Kp τ0 Y) (fr:∀b,aR w=some b->τ0.length<=b)(hy:τ0[y]?=some (O.cells 46 [.str r.name,p1,p2,p3,p4] true))(hA:τ0[mA]?=some (.map es))(ha:DP τ0 N es rs)(hn:∀q∈rs,q.name≠r.name)(hm:∀x,x∈l ↔ N r x)
  (F:FT) (g8:F.get 8=.mp mA) (g10:F.get 10=.ref y 0) (g11:F.get 11=w) {st:List gT}{Q:Ax.X->Fr->Sg->Prop}
  (hk:∀F' τ' es',(∀k,k∈[0,3,8,37,38,39]->F'.get k=F.get k)->τ'[mA]?=some (.map es')->DP τ' N es' (rs++[r])->(∀(c:Nat) (o:O),τ0[c]?=some o->c≠mA->τ'[c]?=some o)->M E st .normal ⟨74,F'⟩ τ' Q):R E (.region 24 (opsOf (cutAt [1,1,1,1,0,1,2,2,1,1,0,2,1,1,1,1] (aA Tryz.f154).code)) true) st ⟨74,F⟩ Y Q:=by
 obtain⟨n,v,τ1,hcall,⟨l',ol,hle,hmem⟩,hbk,sp,hlen⟩:=Nu h ow hl
 have kp1:Kp τ0 τ1:=λc o hc=>sp c o (kp c o hc) λe=>absurd (AI.1 hc).1 (by have:=fr c e;omega)
 have hy0:=kp _ _ hy
 have hy1:=kp1 _ _ hy
 have hA1:=kp1 _ _ hA
 obtain⟨hu,ha2⟩:=QY h hA1 (ha.keep hA λc o hc _=>kp1 c o hc) hn ol (by omega) (λx=>(hmem x).trans (hm x))
 have vs:=xL 11 r.name
 have key:∃F',bW E (ev E n) (opsOf (cutAt [1,1,1,1,0,1,2,2,1,1,0,2,1,1,1,1] (aA Tryz.f154).code)) ⟨74,F⟩ Y=some (⟨74,F'⟩,τ1.set mA (.map (es++[(.str r.name,v)])))/\(∀k,k∈[0,3,8,37,38,39]->F'.get k=F.get k):=by
  unfold bW
  rw[h.QT,h.RE]
  simp only[aA,Tryz.f154,KP,Ax.loadAt,↓reduceIte,reduceEqDiff,reduceLT,reduceAdd,reduceCtorEq,h.c_,h.bM,opsOf,cutAt,fF,bJ,bV,jF,Ax.comp,Ax.last,eL,Ax.again,aU,g8,g10,g11,hy0,hy1,hcall,hu,vs]
  refine⟨_,rfl,λk hk=>?_⟩
  simp only[IN,ck,fh]at hk
  rcases hk with rfl | rfl | rfl | rfl | rfl | rfl <;> simp +decide only[GS]
 obtain⟨F',hD,h1⟩:=key
 refine Eq.mpr (fO hD) (hk F' _ _ h1 (by rw[bj (AI.1 hA1).1]) ha2 λc o hc hcm=>?_)
 rw[IT (ju hcm)]
 exact kp1 c o hc
end
end
section
section
variable {E:Env}{Z:Sg}{K:V->Sg->Prop}
def Nx (rs:List aD) (r:aD) (x:bH):Prop:=x∈r.after\/∃f∈r.ins,Mk rs f x
structure Fq (rs:List aD):Prop where
 names:∀r∈rs,r.name.length<=40
 V_:∀r∈rs,∀s∈r.after,s.length<=40
 nodup:∀(i j:Nat) (p q:aD),rs[i]?=some p->rs[j]?=some q->p.name=q.name->i=j
 jM:∀f n m,Mk rs f n->Mk rs f m->n=m
theorem Mk.short {rs:List aD}(h:Fq rs) {f n:bH}(hm:Mk rs f n):n.length<=40:=by
 obtain⟨r,hr,-,rfl⟩:=hm
 exact h.names r hr
theorem Ye (h:bK E) {a:V}{rs:List aD} (ia:IS dO a rs)(hs:∀x∈rs,Small x)(hsh:Fq rs)(hl:rs.length<=1000) {Y:Sg}{es0:List (V × V)}{get:bH->Option V}(h0:Y[0]?=some (.map es0))(hsm:SM E es0 get)(hmk:MK get (Mk rs)) (F:FT) (g0:F.get 0=a) (g3:F.get 3=.mp 0) :
  R E (cutAt [1,1,1] (aA Tryz.f154).code) [] ⟨74,F⟩ Y (mS E (aA Tryz.f154).results (λv σ1=>match cG σ1 E.ty false v with
   |some v=>∃es,v=.imp false es/\BG (Nx rs) es rs
   |none=>False)):=by
 have la:=cZ h ia
 have rest:=λ{τ0 Y w p1 p2 p3 p4 l r y mA es rs'} ow hl' kp fr hy hA ha hn hm F g8 g10 g11 st Q hk=>U0 (τ0:=τ0) (Y:=Y) (w:=w) (p1:=p1) (p2:=p2) (p3:=p3) (p4:=p4) (l:=l) (r:=r) (y:=y) (mA:=mA) (es:=es) (N:=Nx rs) (rs:=rs') h ow hl' kp fr hy hA ha hn hm F g8 g10 g11 (st:=st) (Q:=Q) hk
 simp only[aA,Tryz.f154,KP,↓reduceIte,reduceLT,reduceCtorEq,cutAt,g0,la]
 have hA0:(Y++[O.map []])[Y.length]?=some (.map []):=aL
 have h00:=aJ (x:=O.map []) h0
 have hmA:Y.length≠0:=by have:=(AI.1 h0).1;omega
 generalize Y++[O.map []]=τ1 at *
 generalize Y.length=mA at *
 refine aS (λi F Y=>F.get 0=a/\F.get 3=.mp 0/\F.get 8=.mp mA/\F.get 37=a/\F.get 38=.int .i64 (rs.length:Int)/\F.get 39=.int .i64 (i:Int)/\Y[0]?=some (.map es0)/\∃es,Y[mA]?=some (.map es)/\DP Y (Nx rs) es (rs.take i)) rs.length ?_ ?_ rs.length 0 _ _ (by omega) (oG (by simp +decide only[GS,g0,g3,ag]) ⟨h00,[],hA0,.nil⟩)
 ·rintro i F Y hi ⟨g0,g3,g8,g37,g38,g39,h0,es,hA,ha⟩ next
  obtain⟨r,hr⟩:∃y,rs[i]?=some y:=⟨_,BY hi⟩
  have hrm:=aa hr
  obtain⟨g,p1,p2,p3,p4,e1,i1,i2,i3,i4⟩:=eH h ia hr
  have hsr:=hs r hrm
  have a1:=hsr.ins
  have a3:=hsr.after
  have o1:=aN i1.bF
  have o2:=aN i2.bF
  have o3:=aN i3.bF
  have o4:=aN i4.bF
  have hlt:=dG hi
  have hadd:=bQ i (by omega)
  have li:=bU h i1
  have hnn:∀q∈rs.take i,q.name≠r.name:=λq hq e=>by
   obtain⟨j,hj⟩:=gp.1 hq
   have hji:j<i:=by have:=(AI.1 hj).1;rw[br]at this;omega
   rw[fu hji]at hj
   have:=hsh.nodup j i q r hj hr e
   omega
  have hb1:=aJ (x:=O.cells 46 [.str r.name,p1,p2,p3,p4] true) h0
  have hA1:=aJ (x:=O.cells 46 [.str r.name,p1,p2,p3,p4] true) hA
  have ha1:DP (Y++[O.cells 46 [.str r.name,p1,p2,p3,p4] true]) (Nx rs) es (rs.take i):=ha.keep hA λc o hc _=>aJ hc
  have s1:(Y++[O.cells 46 [.str r.name,p1,p2,p3,p4] true])[Y.length]?=some (O.cells 46 [.str r.name,p1,p2,p3,p4] true):=aL
  rw[aC]
  simp only[KP,Ax.loadAt,Ax.storeAt,↓reduceIte,reduceEqDiff,reduceLT,reduceAdd,reduceCtorEq,h.bC,h.bM,g37,g38,g39,hlt,e1,o1,o2,o3,o4,aL,cA]
  generalize Y++[O.cells 46 [.str r.name,p1,p2,p3,p4] true]=τ1 at *
  generalize Y.length=y at *
  refine aP (tA h i3 (by omega)) ?_
  rintro w0 τ2 ⟨ow0,kp0,fr0⟩
  have s2:=kp0 _ _ s1
  simp only[KP,Ax.loadAt,↓reduceIte,reduceEqDiff,reduceLT,reduceCtorEq,h.bC,h.bM,s2,li]
  refine aS (λj F Y=>F.get 0=a/\F.get 3=.mp 0/\F.get 8=.mp mA/\F.get 37=a/\F.get 38=.int .i64 (rs.length:Int)/\F.get 39=.int .i64 (i:Int)/\F.get 10=.ref y 0/\F.get 47=p1/\F.get 48=.int .i64 (r.ins.length:Int)/\F.get 49=.int .i64 (j:Int)/\Kp τ1 Y/\∃w cur,F.get 11=w/\aV aQ 9 Y w cur/\(∀b,aR w=some b->τ1.length<=b)/\cur.length<=r.after.length+j/\(∀x∈cur,x.length<=40)/\∀x,x∈cur ↔ x∈r.after\/∃f∈r.ins.take j,Mk rs f x) r.ins.length ?_ ?_ r.ins.length 0 _ _ (by omega) (J1 (by simp +decide only[GS,g0,g3,g8,g37,g38,g39,ag]) ⟨kp0,w0,r.after,(by simp +decide only[GS]),ow0,fr0,ae _,hsh.V_ r hrm,λx=>by simp⟩)
  ·rintro j F Y hj ⟨g0,g3,g8,g37,g38,g39,g10,g47,g48,g49,kp,w,cur,g11,ow,fr,hcl,hc40,hmem⟩ next2
   obtain⟨s,hsj⟩:∃y,r.ins[j]?=some y:=⟨_,BY hj⟩
   obtain⟨g',e2⟩:=g_ h i1 hsj
   have hlt2:=dG hj
   have hadd2:=bQ j (by omega)
   have hb2:=kp _ _ hb1
   have hlk:=RT (Z:=Y) (x:=.mp 0) h (by unfold entriesOf;simp only[hb2]) hsm s
   have hex:∀x,(∃f∈r.ins.take (j+1),Mk rs f x) ↔ (∃f∈r.ins.take j,Mk rs f x)\/Mk rs s x:=λx=>by
    constructor
    ·rintro⟨f,hf,hm⟩
     rcases (gE hsj f).1 hf with hf | rfl
     ·exact .inl ⟨f,hf,hm⟩
     ·exact .inr hm
    ·rintro (⟨f,hf,hm⟩ | hm)
     ·exact⟨f,(gE hsj f).2 (.inl hf),hm⟩
     ·exact⟨s,(gE hsj s).2 (.inr rfl),hm⟩
   rw[aC]
   rcases hmk s with⟨hg,hno⟩ | ⟨n,hP,hg⟩
   ·rw[hg]at hlk
    simp only[KP,Ax.loadAt,↓reduceIte,reduceEqDiff,reduceLT,h.c_,g3,g47,g48,g49,hlt2,e2,hlk,hadd2]
    refine next2 _ _ (J1 (by simp +decide only[GS,g0,g3,g8,g37,g38,g39,g10,g47,g48,ag]) ⟨kp,w,cur,(by simp +decide only[GS,g11]),ow,fr,by omega,hc40,λx=>?_⟩)
    rw[hmem,hex]
    exact⟨λh=>h.elim .inl λg=>.inr (.inl g),λh=>h.elim .inl λg=>.inr (g.elim id λg=>absurd g (hno x))⟩
   ·rw[hg]at hlk
    obtain⟨w',τ',hap,ow',sp',hln',fr'⟩:=iR (ats:=#[24,24]) (m:=[n]) (new:=[[.str n]]) h.bC rfl h.c_ rfl (by decide) (iI h) rfl (ow.app [.cells 9 [.str n] true]) (kL rfl) (.one rfl) (dA (b:=1000) (by decide) (by simp only[af,b8];omega))
    simp only[KP,Ax.loadAt,↓reduceIte,reduceEqDiff,reduceLT,reduceLeDiff,reduceMul,h.c_,h.bC,g3,g11,g47,g48,g49,hlt2,e2,hlk,lA,hap,hadd2]
    refine next2 _ _ (J1 (by simp +decide only[GS,g0,g3,g8,g37,g38,g39,g10,g47,g48,ag]) ⟨λc o hc=>sp' c o (aJ (kp c o hc)) λe=>absurd (AI.1 hc).1 (by have:=fr c e;omega),w',cur++[n],(by simp +decide only[GS]),ow',λb hb=>?_,by rw[ak,dz];omega,λx hx=>?_,λx=>?_⟩)
    ·rcases fr' b hb with g | g
     ·exact fr b g
     ·have h1:=(AI.1 (kp _ _ s1)).1
      have h2:τ1.length<=Y.length:=by
       refine oe λhlt=>?_
       obtain⟨o,ho⟩:∃o,τ1[Y.length]?=some o:=⟨_,BY hlt⟩
       exact absurd (AI.1 (kp _ _ ho)).1 (b9 _)
      simp only[ak,af,b8]at g
      omega
    ·rcases bt.1 hx with hx | hx
     ·exact hc40 x hx
     ·rw[cj.1 hx];exact hP.short hsh
    ·rw[bt,hmem,hex,cj]
     constructor
     ·rintro ((h1 | h1) | rfl)
      ·exact .inl h1
      ·exact .inr (.inl h1)
      ·exact .inr (.inr hP)
     ·rintro (h1 | h1 | h1)
      ·exact .inl (.inl h1)
      ·exact .inl (.inr h1)
      ·exact .inr (hsh.jM s x n h1 hP)
  ·rintro F Y ⟨g0,g3,g8,g37,g38,g39,g10,g47,g48,g49,kp,w,cur,g11,ow,fr,hcl,hc40,hmem⟩
   rw[ah (ae _)]at hmem
   have hlt2:=dH (b9 r.ins.length)
   obtain⟨τ3,cur',hS,hperm,ow3,IX,hln3⟩:=E1 ow (by omega) (λx hx=>by have:=hc40 x hx;omega)
   have ks:=cU (λK=>show aB E 73 [w] Y K=K (.gR []) τ3 by rw[oK h.PK,hS];rfl)
   have kp3:Kp τ1 τ3:=λc o hc=>IX c o (kp c o hc) λe=>absurd (AI.1 hc).1 (by have:=fr c e;omega)
   rw[aC]
   simp only[KP,↓reduceIte,reduceEqDiff,reduceLT,g11,g48,g49,hlt2,ks]
   refine rest (rs':=rs.take i) ow3 (by rw[hperm.length_eq];omega) kp3 fr s1 hA1 ha1 hnn (λx=>?_) _ ?_ ?_ ?_ _ _ ?_
   ·rw[hperm.mem_iff,hmem];exact mh
   ·exact (by simp +decide only[GS,g8])
   ·exact (by simp +decide only[GS,g10])
   ·exact (by simp +decide only[GS,g11])
   intro F' τ' es' hF hA' ha' hk'
   have q0:F'.get 0=a:=(hF 0 (by simp)).trans (by simp +decide only[GS,g0])
   have q3:F'.get 3=.mp 0:=(hF 3 (by simp)).trans (by simp +decide only[GS,g3])
   have q8:F'.get 8=.mp mA:=(hF 8 (by simp)).trans (by simp +decide only[GS,g8])
   have q37:F'.get 37=a:=(hF 37 (by simp)).trans (by simp +decide only[GS,g37])
   have q38:F'.get 38=.int .i64 (rs.length:Int):=(hF 38 (by simp)).trans (by simp +decide only[GS,g38])
   have q39:F'.get 39=.int .i64 (i:Int):=(hF 39 (by simp)).trans (by simp +decide only[GS,g39])
   simp only[KP,↓reduceIte,reduceLT,q39,hadd]
   refine next _ _ (oG (by simp +decide only[GS,q0,q3,q8,q37,q38,ag]) ⟨hk' 0 _ hb1 (ju hmA),es',hA',?_⟩)
   rw[dn,hr]
   exact ha'
 ·rintro F Y ⟨g0,g3,g8,g37,g38,g39,h0,es,hA,ha⟩
  rw[ah (ae _)]at ha
  obtain⟨es',e1,a1⟩:=On h hA ha
  have hlt:=dH (b9 rs.length)
  rw[aC]
  simp only[KP,↓reduceIte,reduceEqDiff,reduceLT,g8,g38,g39,hlt,e1]
  exact⟨es',rfl,a1⟩
theorem Ta (h:bK E) {a:V}{rs:List aD}(ha:LS dO 46 Z a rs)(hs:∀x∈rs,Small x)(hsh:Fq rs)(hl:rs.length<=1000):aB E 154 [a] Z λv σ'=>σ'=Z/\∃es,v=.imp false es/\BG (Nx rs) es rs:=by
 obtain⟨a',ea,ia⟩:=eJ h ha
 rw[aI h.ZB h.W6 h.aap h.YG (args':=[a']) (by simp only[aW,ea]),aY (by kernel_rfl)]
 have key:=λY es0 get h0 hsm hmk F g0 g3=>Ye (Y:=Y) (es0:=es0) (get:=get) h ia hs hsh hl h0 hsm hmk F g0 g3
 have k2:=λF g0 g3 hk=>Yf (K:=λv σ1=>match cG σ1 E.ty false v with
   |some v=>∃es,v=.imp false es/\BG (Nx rs) es rs
   |none=>False) h ia hs (by omega) F g0 g3 hk
 rw[show (aA Tryz.f154).code=.seq (cutAt [0] (aA Tryz.f154).code) (.seq (cutAt [1,0] (aA Tryz.f154).code) (cutAt [1,1] (aA Tryz.f154).code)) from rfl]
 generalize cutAt [1,1] (aA Tryz.f154).code=C at k2 ⊢
 simp only[aA,Tryz.f154,KP,↓reduceIte,reduceLT,cutAt]
 refine k2 _ ?_ ?_ λF' Y es get g0 g3 hb hsm hmk=>key Y es get hb hsm hmk F' g0 g3
 ·exact (by simp +decide only[GS])
 ·exact (by simp +decide only[GS])
end
end
section
section
variable {E:Env}{Z:Sg}{K:V->Sg->Prop}
theorem BG.back {N:aD->bH->Prop}:∀{es:List (V × V)}{rs:List aD},BG N es rs->oD es=true/\es.map ks=rs.map aD.name/\es.length=rs.length
 |_,_,.nil=>⟨rfl,rfl,rfl⟩
 |(a,v)::es,r::rs,.cons h t=>by
  obtain⟨h1,l,h2,h3,-⟩:=h
  obtain⟨i1,i2,i3⟩:=BG.back (N:=N) t
  dsimp only at h1 h2
  subst h1
  refine⟨?_,?_,by rw[af,af,i3]⟩
  ·have hr:∀l:List bH,uY (l.map λs=>[V.str s])=true:=λl=>by
    induction l with
    |nil=>rfl
    |cons s l ih=>rw[bl,uY];exact ih
   rcases h2 with⟨rfl,-⟩ | ⟨full,rfl⟩
   ·rw[oD];exact i1
   ·rw[oD,hr,bg,mc h3];exact i1
  ·rw[bl,bl,i2];rfl
theorem AZ:∀l:List bH,nH (l.map λs=>[V.str s])=l
 | []=>rfl
 |s::l=>by rw[bl,nH,AZ l]
theorem TT.list {v:V}{l:List bH}(h:TT v l):iX v=l:=by
 rcases h with⟨rfl,rfl⟩ | ⟨full,rfl⟩
 ·rfl
 ·exact AZ l
theorem yM:∀{es:List (V × V)},jE es->(es.map ks).Nodup->hU es=true
 | [],_,_=>rfl
 |e::es,ha,hn=>by
  obtain⟨k,hk⟩:=ha _ (By ..)
  obtain⟨a,v⟩:=e
  dsimp only at hk
  subst hk
  rw[bl,dm]at hn
  have hh:∀{l:List (V × V)},jE l->k ∉ l.map ks->hU.hasKey k l=false:=by
   intro l
   induction l with
   |nil=>intro _ _;rfl
   |cons e l ih=>
    intro ha hk
    obtain⟨q,hq⟩:=ha _ (By ..)
    obtain⟨b,u⟩:=e
    dsimp only at hq
    subst hq
    rw[bl,IN,pq]at hk
    rw[hU.hasKey,show Ax.seq q k=false from kF.2 (λe=>hk.1 e.symm)]
    exact ih (λe he=>ha e (No _ he)) hk.2
  rw[hU,hh (λe he=>ha e (No _ he)) hn.1]
  exact yM (λe he=>ha e (No _ he)) hn.2
structure NM (rs:List aD) (es:List (V × V)):Prop where
 ok:oD es=true
 keys:es.map ks=rs.map aD.name
 nodup:(es.map ks).Nodup
 nd:hU es=true
 len:es.length=rs.length
 next:∀r∈rs,∀x,x∈cC es r.name ↔ Nx rs r x
theorem BG.mem {N:aD->bH->Prop}:∀{es:List (V × V)}{rs:List aD},BG N es rs->∀r∈rs,∃v l,(V.str r.name,v)∈es/\TT v l/\∀x,x∈l ↔ N r x
 |_,_,.nil,r,hr=>by cases hr
 |(a,v)::es,q::rs,.cons h t,r,hr=>by
  rcases IN.1 hr with rfl | hr
  ·obtain⟨h1,l,h2,h3,h4⟩:=h
   dsimp only at h1
   subst h1
   exact⟨v,l,By ..,h2,h4⟩
  ·obtain⟨v',l,h1,h2,h3⟩:=BG.mem (N:=N) t r hr
   exact⟨v',l,No _ h1,h2,h3⟩
theorem A5:∀{rs:List aD},(∀(i j:Nat) (p q:aD),rs[i]?=some p->rs[j]?=some q->p.name=q.name->i=j)->(rs.map aD.name).Nodup
 | [],_=>List.Pairwise.nil
 |r::rs,h=>by
  rw[bl,dm]
  refine⟨λhm=>?_,A5 λi j p q hp hq e=>by
   have:=h (i+1) (j+1) p q hp hq e
   omega⟩
  obtain⟨q,hq,e⟩:=cm.1 hm
  obtain⟨j,hj⟩:=gp.1 hq
  have:=h 0 (j+1) r q rfl hj e.symm
  omega
theorem Yc {rs:List aD}{es:List (V × V)}(hsh:Fq rs)(h:BG (Nx rs) es rs):NM rs es:=by
 obtain⟨h1,h2,h3⟩:=h.back
 have hn:(es.map ks).Nodup:=by rw[h2];exact A5 hsh.nodup
 have hb:=xE h1
 refine⟨h1,h2,hn,yM (λe he=>(hb e he).1) hn,h3,λr hr x=>?_⟩
 obtain⟨v,l,hm,hv,hx⟩:=h.mem r hr
 rw[wV hb hn hm,hv.list]
 exact hx x
theorem Bj {L:List (List (List Nat))}:∀{l:List (List Nat)},i_ L l=none ↔ ∀a∈l,gD a L=none
 | []=>⟨λ_ a h=>(by cases h),λ_=>rfl⟩
 |a::l=>by
  rw[i_]
  have ih:=Bj (L:=L) (l:=l)
  cases hd:gD a L with
  |none=>
   dsimp only
   rw[ih]
   exact⟨λh x hx=>(IN.1 hx).elim (λe=>by rw[e];exact hd) (h x),λh x hx=>h x (No _ hx)⟩
  |some d=>
   refine⟨λh=>?_,λh=>?_⟩
   ·cases hb:i_ L l with
    |none=>rw[hb]at h;cases h
    |some e=>
     rw[hb]at h
     dsimp only at h
     split at h <;> cases h
   ·have:=h a (By ..)
    rw[hd]at this;cases this
theorem ED {es:List (V × V)}(hb:gP es) {f:List Nat}:∀(k:Nat) (x:List Nat),Ed es f k x->(∀j,j<k->¬ Ed es f j x)->∃ys:List (List Nat),ys.length=k/\ys.Nodup/\(∀y∈ys,y∈es.map ks)/\∀y∈ys,∃j,1<=j/\j<=k/\Ed es f j y/\∀i,i<j->¬ Ed es f i y
 |0,x,_,_=>⟨[],rfl,List.Pairwise.nil,λ_ h=>(by cases h),λ_ h=>(by cases h)⟩
 |k+1,x,.succ (nx:=nx) hx hr,hm=>by
  have hmin:∀j,j<k->¬ Ed es f j nx:=λj hj h=>hm (j+1) (by omega) (.succ hx h)
  obtain⟨ys,h1,h2,h3,h4⟩:=ED hb k nx hr hmin
  refine⟨x::ys,by rw[af,h1],dm.2 ⟨λhxy=>?_,h2⟩,λy hy=>?_,λy hy=>?_⟩
  ·obtain⟨j,j1,j2,j3,j4⟩:=h4 x hxy
   exact hm j (by omega) j3
  ·rcases IN.1 hy with rfl | hy
   ·obtain⟨v,hv,-⟩:=CM hb hx
    exact cm.2 ⟨_,hv,rfl⟩
   ·exact h3 y hy
  ·rcases IN.1 hy with rfl | hy
   ·exact⟨k+1,by omega,ae _,.succ hx hr,hm⟩
   ·obtain⟨j,j1,j2,j3⟩:=h4 y hy
    exact⟨j,j1,by omega,j3⟩
theorem OI {es:List (V × V)}(hb:gP es)(hn:(es.map ks).Nodup) {f x:List Nat}{k:Nat}(h:Ed es f k x):∃d,tN es f x=some d:=by
 have:∃d,Ed es f d x/\∀j,j<d->¬ Ed es f j x:=by
  induction k using Nat.strongRecOn with
  |_ k ih=>
   by_cases hex:∃j,j<k/\Ed es f j x
   ·obtain⟨j,hj,hr⟩:=hex
    exact ih j hj hr
   ·exact⟨k,h,λj hj hr=>hex ⟨j,hj,hr⟩⟩
 obtain⟨d,hr,hm⟩:=this
 obtain⟨ys,h1,h2,h3,-⟩:=ED hb d x hr hm
 have:=Ak h2 h3
 rw[h1,bg]at this
 exact⟨d,(lM hb hn).2 ⟨this,hr,hm⟩⟩
theorem Iw {rs:List aD}{es:List (V × V)}(h:NM rs es) (f:bH):i_ (dX es es.length [f]) (cC es f)≠none ↔ ∃n,Ed es f (n+1) f:=by
 have hb:=xE h.ok
 constructor
 ·intro hne
  have hne:∃b,i_ (dX es es.length [f]) (cC es f)=some b:=by
   cases he:i_ (dX es es.length [f]) (cC es f) with
   |none=>exact absurd he hne
   |some b=>exact⟨b,rfl⟩
  obtain⟨b,hbo⟩:=hne
  obtain⟨a,ha,hd⟩:=zL _ _ _ hbo
  exact⟨b,.succ ha ((lM hb h.nodup).1 hd).2.1⟩
 ·rintro⟨n,hr⟩ hno
  cases hr with
  |succ hx hr=>
   obtain⟨d,hd⟩:=OI hb h.nodup hr
   have:=Bj.1 hno _ hx
   rw[show gD _ (dX es es.length [f])=some d from hd]at this
   cases this
end
end
section
section
variable {E:Env}{Z:Sg}{K:V->Sg->Prop}
theorem fL {α:Type}{p:α->Bool}:∀{l:List α}{k:Nat},bI p l=some k->∃x,l[k]?=some x/\p x=true
 | [],_,h=>by cases h
 |x::l,k,h=>by
  rw[bI]at h
  by_cases hx:p x=true
  ·rw[bf hx]at h;cases h;exact⟨x,rfl,hx⟩
  ·rw[az hx]at h
   cases hf:bI p l with
   |none=>rw[hf]at h;cases h
   |some j=>
    rw[hf]at h
    cases h
    obtain⟨y,h1,h2⟩:=fL hf
    exact⟨y,h1,h2⟩
structure Good (rs:List aD):Prop where
 short:Fq rs
 known:∀r∈rs,∀n∈r.after,iU rs n=true
 len:rs.length<=40
 rule:∀r∈rs,bE r=0
theorem K8 {s:bH}(h:bN s=true):s.length<=40:=by
 unfold bN at h
 simp only[aj,OF]at h
 exact h.1.2
theorem vH {rs:List aD}(h:gZ rs=0):Good rs:=by
 unfold gZ at h
 cases hf:rs.find? (λr=>decide (bE r≠0)) with
 |some r=>
  rw[hf]at h
  have:=List.find?_some hf
  rw[OF]at this
  exact absurd h this
 |none=>
  rw[hf]at h
  dsimp only at h
  have hr:∀r∈rs,bE r=0:=λr hr=>by
   have:=mg.1 hf r hr
   simpa using this
  by_cases h40:40<rs.length
  ·rw[bf h40]at h;cases h
  rw[az h40]at h
  cases hc:sY rs with
  |true=>rw[bf hc]at h;cases h
  |false=>
  rw[az (by rw[hc];simp)]at h
  cases hst:h_ rs with
  |true=>rw[bf hst]at h;cases h
  |false=>
  have hcl:∀i r,rs[i]?=some r->iU (rs.take i) r.name=false/\r.outs.any (vY (rs.take i))=false:=λi r hi=>by
   have:=mu.1 hc i (l5.2 (AI.1 hi).1)
   rw[DD hi]at this
   simpa using this
  have hform:∀r∈rs,bN r.name=true/\r.after.all bN=true:=λr hm=>by
   have:=hr r hm
   unfold bE at this
   by_cases hfo:kT r=false
   ·rw[bf hfo]at this;cases this
   ·have hfo:kT r=true:=by simpa using hfo
    unfold kT at hfo
    simp only[aj]at hfo
    exact⟨hfo.1.1.1.1.1,hfo.1.2⟩
  have before:∀(i j:Nat) (p:aD),j<i->rs[j]?=some p->p∈rs.take i:=λi j p hji hj=>aa (by rw[fu hji];exact hj)
  refine⟨⟨λr hm=>K8 (hform r hm).1,λr hm s hs=>K8 (er.1 (hform r hm).2 s hs),?_,?_⟩,λr hm n hn=>?_,by omega,hr⟩
  ·have key:∀(i j:Nat) (p q:aD),j<i->rs[i]?=some p->rs[j]?=some q->p.name≠q.name:=λi j p q hji hp hq e=>by
    have:=(hcl i p hp).1
    rw[show iU (rs.take i) p.name=true from fc.2 ⟨q,before i j q hji hq,AT e.symm⟩]at this
    cases this
   intro i j p q hp hq e
   rcases jn i j with g | g | g
   ·exact absurd e.symm (key j i q p g hq hp)
   ·exact g
   ·exact absurd e (key i j p q g hp hq)
  ·have key:∀(i j:Nat) (p q:aD) (f:bH),j<i->rs[i]?=some p->rs[j]?=some q->f∈p.outs->f∈q.outs->False:=λi j p q f hji hp hq h1 h2=>by
    have:=(hcl i p hp).2
    rw[show p.outs.any (vY (rs.take i))=true from fc.2 ⟨f,h1,fc.2 ⟨q,before i j q hji hq,AT h2⟩⟩]at this
    cases this
   rintro f n m ⟨p,hp,h1,rfl⟩ ⟨q,hq,h2,rfl⟩
   obtain⟨i,hi⟩:=gp.1 hp
   obtain⟨j,hj⟩:=gp.1 hq
   rcases jn i j with g | g | g
   ·exact (key j i q p f g hj hi h2 h1).elim
   ·subst g
    rw[hi]at hj
    cases hj
    rfl
   ·exact (key i j p q f g hi hj h1 h2).elim
  ·have h1:=mu.1 hst r hm
   have h2:(r.after.any λn=>decide (gB rs n=none))=false:=by simpa using h1
   have h3:=mu.1 h2 n hn
   rw[t_]at h3
   simpa using h3
theorem CN {rs:List aD}{es:List (V × V)} (g:Good rs)(h:NM rs es) {i:Nat}{r:aD}(hi:rs[i]?=some r) (x:bH):x∈cC es r.name ↔ ∃k q,jS rs false i k=true/\rs[k]?=some q/\q.name=x:=by
 have hm:=aa hi
 rw[h.next r hm]
 have hd:∀k,jS rs false i k=true ↔ (∃f∈r.ins,eW rs f=some k)\/∃n∈r.after,gB rs n=some k:=λk=>by
  unfold jS yP
  rw[hi]
  simp only[kz,jf,fq,fc,OF]
 constructor
 ·rintro (hx | ⟨f,hf,hmk⟩)
  ·have hk:=g.known r hm x hx
   unfold iU at hk
   rw[<- cI]at hk
   obtain⟨k,hk⟩:=jl.1 hk
   obtain⟨q,h1,h2⟩:=fL hk
   exact⟨k,q,(hd k).2 (.inr ⟨x,hx,hk⟩),h1,dx h2⟩
  ·obtain⟨p,hp,hfp,rfl⟩:=hmk
   obtain⟨k,hk⟩:=iE (p:=λq:aD=>decide (f∈q.outs)) hp (AT hfp)
   obtain⟨q,h1,h2⟩:=fL hk
   exact⟨k,q,(hd k).2 (.inl ⟨f,hf,hk⟩),h1,g.short.jM f _ _ ⟨q,aa h1,dx h2,rfl⟩ ⟨p,hp,hfp,rfl⟩⟩
 ·rintro⟨k,q,hk,hq,rfl⟩
  rcases (hd k).1 hk with⟨f,hf,h1⟩ | ⟨n,hn,h1⟩
  ·obtain⟨q',h2,h3⟩:=fL h1
   rw[hq]at h2
   cases h2
   exact .inr ⟨f,hf,q,aa hq,dx h3,rfl⟩
  ·obtain⟨q',h2,h3⟩:=fL h1
   rw[hq]at h2
   cases h2
   rw[dx h3]
   exact .inl hn
theorem QU {rs:List aD}{es:List (V × V)} (g:Good rs)(h:NM rs es) {i k:Nat}(hw:AxS.Way (jS rs false) i k):∀{p q:aD},rs[i]?=some p->rs[k]?=some q->∃n,Ed es q.name (n+1) p.name:=by
 induction hw with
 |one hm=>
  intro p q hp hq
  exact⟨0,.succ ((CN g h hp _).2 ⟨_,q,hm,hq,rfl⟩) .zero⟩
 | @cons i j k hm _ ih=>
  intro p q hp hq
  have hj:∃s,rs[j]?=some s:=by
   unfold jS at hm
   rw[hp]at hm
   unfold yP at hm
   simp only[fq,aj,fc,OF]at hm
   rcases hm with⟨f,-,h1⟩ | ⟨-,n,-,h1⟩
   ·obtain⟨s,h2,-⟩:=fL h1;exact⟨s,h2⟩
   ·obtain⟨s,h2,-⟩:=fL h1;exact⟨s,h2⟩
  obtain⟨s,hs⟩:=hj
  obtain⟨n,hr⟩:=ih hs hq
  exact⟨n+1,.succ ((CN g h hp _).2 ⟨j,s,hm,hs,rfl⟩) hr⟩
theorem OH {es:List (V × V)}{f x:List Nat}(h:Ed es f 0 x):x=f:=by cases h;rfl
theorem KY {rs:List aD}{es:List (V × V)} (g:Good rs)(h:NM rs es) {k:Nat}{q:aD}(hq:rs[k]?=some q):∀(n i:Nat) (p:aD),rs[i]?=some p->Ed es q.name (n+1) p.name->AxS.Way (jS rs false) i k
 |n,i,p,hp,.succ (nx:=nx) hx hr=>by
  obtain⟨j,s,hm,hs,rfl⟩:=(CN g h hp _).1 hx
  cases n with
  |zero=>
   have e:s.name=q.name:=OH hr
   have:=g.short.nodup j k s q hs hq e
   subst this
   exact .one hm
  |succ n=>exact .cons hm (KY g h hq n j s hs hr)
theorem Hl {rs:List aD}{es:List (V × V)} (g:Good rs)(h:NM rs es):Ring rs ↔ ∃r∈rs,i_ (dX es es.length [r.name]) (cC es r.name)≠none:=by
 constructor
 ·rintro⟨i,hi,hw⟩
  have hr:rs[i]?=some rs[i]:=BY hi
  obtain⟨n,hn⟩:=QU g h hw hr hr
  exact⟨_,aa hr,(Iw h _).2 ⟨n,hn⟩⟩
 ·rintro⟨r,hr,hb⟩
  obtain⟨i,hi⟩:=gp.1 hr
  obtain⟨n,hn⟩:=(Iw h _).1 hb
  exact⟨i,(AI.1 hi).1,KY g h hi n i r hi hn⟩
end
end
section
section
variable {E:Env}{Z:Sg}{K:V->Sg->Prop}
theorem Nj {rs:List aD}{es:List (V × V)}(h:NM rs es)(hl:rs.length<=1000) (g:Bool) (f:bH):pB [.imp g es,.str f]=some (oE es f):=by
 show (match oD es,hU es,Nat.ble es.length 1000000 with
  |true,true,true=>some (oE es f)
  |_,_,_=>none)=_
 rw[h.ok,h.nd,mc (by rw[h.len];omega)]
theorem DI (es:List (V × V)) (f:bH):(i_ (dX es es.length [f]) (cC es f)=none/\oE es f=.aF)\/(i_ (dX es es.length [f]) (cC es f)≠none/\∃l full,oE es f=.bS false ((f::l).map λs=>[V.str s]) full):=by
 unfold oE
 dsimp only
 cases i_ (dX es es.length [f]) (cC es f) with
 |none=>exact .inl ⟨rfl,rfl⟩
 |some b=>exact .inr ⟨by simp,_,_,rfl⟩
theorem Vj (h:bK E) {rs:List aD}{es:List (V × V)}(hn:NM rs es)(hl:rs.length<=1000) (g:Bool) (f:bH):aB E 155 [.imp g es,.str f] Z K=K (oE es f) Z:=by
 have h5:cG [] E.ty false (oE es f)=some (oE es f):=by
  rcases DI es f with⟨-,e⟩ | ⟨-,l,full,e⟩
  ·rw[e];rfl
  ·rw[e];exact Er rfl rfl
 have hi:Ax.bF (.imp g es)=true:=rfl
 exact tU (args':=[.imp g es,.str f]) h.ZA h.W5 (by simp only[aW,dM,cN hi (bZ hi)]) (Nj hn hl g f) h5
theorem abh (h:bK E) {rs:List aD}{es:List (V × V)}{g:Bool}(hg:Good rs)(hn:NM rs es) {Y:Sg}{w:V} (ow:aV aQ 9 Y w (rs.map aD.name)) (F:FT) (g5:F.get 5=.imp g es) (g6:F.get 6=w) :
  R E (cutAt [1,1,1,1,1] (aA Tryz.f116).code) [] ⟨48,F⟩ Y (mS E (aA Tryz.f116).results (λv σ1=>match cG σ1 E.ty false v with
   |some v=>(v=.aF/\¬ Ring rs)\/∃x l,jG aQ v (x::l)/\Ring rs
   |none=>False)):=by
 have h40:=hg.len
 have hll:(rs.map aD.name).length<=40:=by rw[bg];omega
 obtain⟨τ3,ns,hS,hperm,ow3,-,-⟩:=E1 ow (by omega) (λx hx=>by
  obtain⟨r,hr,rfl⟩:=cm.1 hx
  have:=hg.short.names r hr
  omega)
 have ks:=cU (λK=>show aB E 73 [w] Y K=K (.gR []) τ3 by rw[oK h.PK,hS];rfl)
 have hnl:ns.length<=40:=by rw[hperm.length_eq];omega
 have lw:=mZ h.bC rfl ow3.ls
 simp only[aA,Tryz.f116,KP,↓reduceIte,reduceEqDiff,reduceLT,cutAt,g6,ks,lw]
 refine aS (λi F Y=>Y=τ3/\F.get 5=.imp g es/\F.get 35=w/\F.get 36=.int .i64 (ns.length:Int)/\F.get 37=.int .i64 (i:Int)/\∀(j:Nat) (x:bH),j<i->ns[j]?=some x->i_ (dX es es.length [x]) (cC es x)=none) ns.length ?_ ?_ ns.length 0 _ _ (by omega) ⟨rfl,(fM (by simp +decide only[GS,g5,ag]) (λj x hj=>by omega))⟩
 ·rintro i F Y hi ⟨rfl,g5,g35,g36,g37,hp⟩ next
  obtain⟨x,hx⟩:∃y,ns[i]?=some y:=⟨_,BY hi⟩
  obtain⟨p,r,e4,e5,-,e6,-⟩:=DJ (Z:=Y) h.bC rfl h.c_ rfl ow3.ls hx
  have e6:=e6 rfl (by decide)
  rw[show r=[.str x] from e5]at e6
  have e6:loadAt E Y 9 p=some (.str x):=e6
  have hlt:=dG hi
  have hadd:=bQ i (by omega)
  have kb:=λ(Z:Sg)=>cU (λK=>Vj (Z:=Z) (K:=K) h hn (by omega) g x)
  have hxm:x∈rs.map aD.name:=hperm.mem_iff.1 (aa hx)
  obtain⟨q,hq,hqx⟩:=cm.1 hxm
  rw[aC]
  rcases DI es x with⟨hb,e⟩ | ⟨hb,l,full,e⟩
  ·simp only[KP,↓reduceIte,reduceEqDiff,reduceLT,g5,g35,g36,g37,hlt,e4,e6,kb,e,Dt h,hadd]
   refine next _ _ ⟨rfl,(fM (by simp +decide only[GS,g5,g35,g36,ag]) (λj y hj hy=>?_))⟩
   rcases bz j i with gg | gg
   ·exact hp j y gg hy
   ·obtain rfl:j=i:=by omega
    rw[hx]at hy;cases hy;exact hb
  ·have hsn:∀Z,cG Z E.ty false (.bS false ((x::l).map λs=>[V.str s]) full)=some (.bS false ((x::l).map λs=>[V.str s]) full):=λZ=>Er rfl rfl
   simp only[KP,↓reduceIte,reduceEqDiff,reduceLT,reduceCtorEq,g5,g35,g36,g37,hlt,e4,e6,kb,e,Ds h,hsn]
   exact .inr ⟨x,l,.inr ⟨_,full,rfl,Ar _⟩,(Hl hg hn).2 ⟨q,hq,by rw[hqx];exact hb⟩⟩
 ·rintro F Y ⟨rfl,g5,g35,g36,g37,hp⟩
  have hlt:=dH (b9 ns.length)
  rw[aC]
  simp only[KP,↓reduceIte,reduceLT,g36,g37,hlt]
  refine .inl ⟨rfl,λhr=>?_⟩
  obtain⟨r,hr,hb⟩:=(Hl hg hn).1 hr
  obtain⟨j,hj⟩:=gp.1 (hperm.mem_iff.2 (cm.2 ⟨r,hr,rfl⟩))
  exact hb (hp j r.name (AI.1 hj).1 hj)
theorem Qu (h:bK E) {a:V}{rs:List aD}(ha:LS dO 46 Z a rs)(hs:∀x∈rs,Small x)(hp:gZ rs=0):aB E 116 [a] Z λv σ'=>σ'=Z/\((v=.aF/\¬ Ring rs)\/∃x l,jG aQ v (x::l)/\Ring rs):=by
 obtain⟨a',ea,ia⟩:=eJ h ha
 have hg:=vH hp
 have h40:=hg.len
 rw[aI h.ZM h.Xg h.aaA h.YR (args':=[a']) (by simp only[aW,ea]),aY (by kernel_rfl)]
 have la:=cZ h ia
 have key:=λes g hn Y w ow F g5 g6=>abh (E:=E) (rs:=rs) (es:=es) (g:=g) (Y:=Y) (w:=w) h hg hn ow F g5 g6
 rw[show (aA Tryz.f116).code=.seq (cutAt [0] (aA Tryz.f116).code) (.seq (cutAt [1,0] (aA Tryz.f116).code) (.seq (cutAt [1,1,0] (aA Tryz.f116).code) (.seq (cutAt [1,1,1,0] (aA Tryz.f116).code) (.seq (cutAt [1,1,1,1,0] (aA Tryz.f116).code) (cutAt [1,1,1,1,1] (aA Tryz.f116).code))))) from rfl]
 generalize cutAt [1,1,1,1,1] (aA Tryz.f116).code=C at key ⊢
 simp only[aA,Tryz.f116,KP,↓reduceIte,reduceLT,reduceCtorEq,cutAt]
 refine aP (LN h (ia.ls _ 46) hs (by omega)) ?_
 rintro v σ' ⟨rfl,nm,rfl⟩
 rw[hp]
 simp only[KP,↓reduceIte,reduceEqDiff,reduceLT,reduceCtorEq]
 refine aP (Ta h (ia.ls _ 46) hs hg.short (by omega)) ?_
 rintro v σ' ⟨rfl,es,rfl,hv⟩
 have hn:=Yc hg.short hv
 simp only[KP,↓reduceIte,reduceLT,reduceCtorEq,la]
 refine aS (λi F Y=>F.get 5=.imp false es/\F.get 21=a'/\F.get 22=.int .i64 (rs.length:Int)/\F.get 23=.int .i64 (i:Int)/\∃w,F.get 6=w/\aV aQ 9 Y w ((rs.take i).map aD.name)) rs.length ?_ ?_ rs.length 0 _ _ (by omega) (fM (by simp +decide only[GS,ag]) ⟨.aF,(by simp +decide only[GS]),.inl ⟨rfl,rfl⟩⟩)
 ·rintro i F Y hi ⟨g5,g21,g22,g23,w,g6,ow⟩ next
  obtain⟨r,hr⟩:∃y,rs[i]?=some y:=⟨_,BY hi⟩
  obtain⟨g,p1,p2,p3,p4,e1,i1,i2,i3,i4⟩:=eH h ia hr
  have o1:=aN i1.bF
  have o2:=aN i2.bF
  have o3:=aN i3.bF
  have o4:=aN i4.bF
  have hlt:=dG hi
  have hadd:=bQ i (by omega)
  have s1:(Y++[O.cells 46 [.str r.name,p1,p2,p3,p4] true])[Y.length]?=some (O.cells 46 [.str r.name,p1,p2,p3,p4] true):=aL
  have ow1:=ow.app [O.cells 46 [.str r.name,p1,p2,p3,p4] true]
  rw[aC]
  simp only[KP,Ax.loadAt,Ax.storeAt,↓reduceIte,reduceEqDiff,reduceLT,reduceLeDiff,reduceAdd,reduceMul,reduceCtorEq,h.c_,h.bC,h.bM,g6,g21,g22,g23,hlt,e1,o1,o2,o3,o4,aL,cA]
  generalize Y++[O.cells 46 [.str r.name,p1,p2,p3,p4] true]=τ1 at *
  generalize Y.length=y at *
  obtain⟨w',τ',hap,ow',-,-,-⟩:=iR (ats:=#[24,24]) (m:=[r.name]) (new:=[[.str r.name]]) h.bC rfl h.c_ rfl (by decide) (iI h) rfl (ow1.app [.cells 9 [.str r.name] true]) (kL rfl) (.one rfl) (dA (b:=1000) (by decide) (by rw[bg,br];simp only[af,b8];omega))
  simp only[KP,↓reduceIte,reduceEqDiff,reduceLT,g23,lA,hap,hadd]
  refine next _ _ (fM (by simp +decide only[GS,g5,g21,g22,ag]) ⟨w',(by simp +decide only[GS]),?_⟩)
  rw[dn,hr,eu]
  exact ow'
 ·rintro F Y ⟨g5,g21,g22,g23,w,g6,ow⟩
  rw[ah (ae _)]at ow
  have hlt:=dH (b9 rs.length)
  rw[aC]
  simp only[KP,↓reduceIte,reduceLT,g22,g23,hlt]
  exact key es false hn _ w ow _ (by simp +decide only[GS,g5]) (by simp +decide only[GS,g6])
theorem V6 (h:bK E) {a:V}{rs:List aD}(ha:LS dO 46 Z a rs)(hs:∀x∈rs,Small x)(hl:rs.length<=4294967296):aB E 61 [a] Z λv σ'=>σ'=Z/\∃e nm,v=.gR [.int .i64 e,.str nm]/\IV rs e:=by
 obtain⟨a',ea,ia⟩:=eJ h ha
 rw[aI h.hs61 h.sp61 h.fn61 h.md61 (args':=[a']) (by simp only[aW,ea]),aY (by kernel_rfl)]
 have d6:=h.aa4
 simp only[aA,Tryz.f61,cutAt,an]at d6
 simp only[aA,Tryz.f61,KP,↓reduceIte,reduceLT,reduceCtorEq,lN]
 refine aP (LN h (ia.ls _ 46) hs hl) ?_
 rintro v σ' ⟨rfl,nm,rfl⟩
 by_cases hp:gZ rs=0
 case neg=>
  have q:=AS hp
  simp only[KP,↓reduceIte,reduceEqDiff,reduceLT,q]
  exact⟨gZ rs,nm,rfl,.inl ⟨hp,rfl⟩⟩
 have q:=AT hp
 simp only[KP,↓reduceIte,reduceEqDiff,reduceLT,reduceCtorEq,q]
 refine aP (Qu h (ia.ls _ 46) hs hp) ?_
 rintro v σ' ⟨rfl,hv⟩
 rcases hv with⟨rfl,hr⟩ | ⟨x,l,iv,hr⟩
 ·simp only[KP,↓reduceIte,reduceEqDiff,reduceLT,lN,Dt h]
  exact⟨0,[],rfl,.inr ⟨hp,.inr ⟨hr,rfl⟩⟩⟩
 ·obtain⟨g,e1⟩:=g_ h iv.is (i:=0) (x:=x) rfl
  have e1:indexAddr E 24 v (.int .i64 0)=some (.cL g [.str x]):=e1
  have en:m_ E 24 true v .aF=some false:=by
   rcases iv with⟨-,e⟩ | ⟨rs',full,rfl,-⟩
   ·cases e
   ·exact Ds h
  simp only[KP,Ax.loadAt,↓reduceIte,reduceEqDiff,reduceLT,h.c_,en,e1,aK d6,bB]
  exact⟨3,x,rfl,.inr ⟨hp,.inl ⟨hr,rfl⟩⟩⟩
end
end
structure OrE (E:Env):Prop where
 hs23:E.hspec 23=none
 Rb:E.spec 23=none
 fn23:E.fn 23=some (aA Tryz.f23)
 md23:E.mode 23=.fK
 hs75:E.hspec 75=none
 sp75:E.spec 75=none
 fn75:E.fn 75=some (aA Tryz.f75)
 md75:E.mode 75=.fK
 hs77:E.hspec 77=none
 sp77:E.spec 77=none
 fn77:E.fn 77=some (aA Tryz.f77)
 md77:E.mode 77=.fK
 hs25:E.hspec 25=none
 Ra:E.spec 25=none
 fn25:E.fn 25=some (aA Tryz.f25)
 md25:E.mode 25=.fK
 hs79:E.hspec 79=none
 sp79:E.spec 79=none
 fn79:E.fn 79=some (aA Tryz.f79)
 md79:E.mode 79=.fK
 d23_15:aO E (cutAt [1,1,1,1,1,1,1,0,2,2,1,2,1,0] (aA Tryz.f23).code)=true
section
section
variable {E:Env}{Z:Sg}{K:V->Sg->Prop}
theorem UY {Y:Sg}{w:V}{l:List bH}{k:Nat}{es:List (V × V)}(hb:Y[k]?=some (.map es)) (ow:aV aQ 9 Y w l):aR w≠some k:=by
 rcases ow with⟨rfl,-⟩ | ⟨b,rs,ex,rfl,hc,-⟩
 ·intro e;cases e
 ·intro e
  cases e
  rw[hb]at hc
  cases hc
structure InOrder (rs:List aD) (o:List bH):Prop where
 len:o.length=rs.length
 nodup:o.Nodup
 mem:∀x∈o,x∈rs.map aD.name
 behind:∀(i k:Nat) (p q:aD),rs[i]?=some p->rs[k]?=some q->jS rs false i k=true->∀(j:Nat),o[j]?=some p.name->q.name∈o.take j
structure zP (E:Env) (Y:Sg) (es:List (V × V)) (p:bH->Bool):Prop where
 b0:Y[0]?=some (.cells 101 [.imp false es] true)
 b2:Y[2]?=some (.cells 103 [.mp 1] true)
 b1:∃e1,Y[1]?=some (.map e1)/\SB E e1 p
theorem zP.app {Y:Sg}{es:List (V × V)}{p:bH->Bool}(h:zP E Y es p) (y:O):zP E (Y++[y]) es p:=by
 obtain⟨e1,h1,h2⟩:=h.b1
 exact⟨aJ h.b0,aJ h.b2,e1,aJ h1,h2⟩
theorem zP.sp {Y τ':Sg}{es:List (V × V)}{p:bH->Bool}{w:V}{l:List bH}(h:zP E Y es p) (ow:aV aQ 9 Y w l) (sp:Sp Y τ' w):zP E τ' es p:=by
 obtain⟨e1,h1,h2⟩:=h.b1
 exact⟨sp _ _ h.b0 (kR h.b0 (by decide) ow),sp _ _ h.b2 (kR h.b2 (by decide) ow),e1,sp _ _ h1 (UY h1 ow),h2⟩
theorem zP.put {Y:Sg}{es e1:List (V × V)}{p q:bH->Bool}(h:zP E Y es p)(hs:SB E e1 q):zP E (Y.set 1 (.map e1)) es q:=by
 obtain⟨e0,h1,-⟩:=h.b1
 exact⟨by rw[IT (by decide)];exact h.b0,by rw[IT (by decide)];exact h.b2,e1,by rw[bj (AI.1 h1).1],hs⟩
end
end
section
section
variable {E:Env}{Z:Sg}{K:V->Sg->Prop}
theorem K3 {Z:Sg}{k t:Nat}{cs cs':List V}{ex:Bool}(hb:Z[k]?=some (.cells t cs ex))(hm:aW (λv=>match bG Z E.ty true 11 v with
   |some v=>if bT true v then some v else Ax.no "snap: borrowed"
   |none=>none) cs=some cs'):aT.one Z E.ty true (.ref k 0)=some (.cL true cs'):=by
 have e:bG Z E.ty true 12 (.ref k 0)=some (.cL true cs'):=by
  rw[bG]
  simp only[hb,fg]
  exact au (λo=>match o with
   |some l=>some (V.cL true l)
   |none=>none) hm
 unfold aT.one
 rw[show dN=12 from rfl,e]
 rfl
end
end
section
structure tP (E:Env):Prop where
 wI:E.ty 92=some { kd:=.map 51 69,size:=1,bytes:=8,zero:=.b_ }
 xO:E.ty 94=some { kd:=.jP [(0,90),(1,91),(2,69),(3,92),(4,92)],size:=5,bytes:=40,zero:=.agg [.b_,.b_,.gG,.b_,.b_] }
 T8:E.ty 27=some { kd:=.ptr 94,size:=1,bytes:=8,zero:=.gG }
 T7:E.ty 90=some { kd:=.map 9 46,size:=1,bytes:=8,zero:=.b_ }
 xQ:E.ty 144=some { kd:=.jP [(0,92),(1,51),(3,51)],size:=5,bytes:=56,zero:=.agg [.b_,.bool false,.str [],.bool false,.str []] }
 Kn:E.ty 145=some { kd:=.sl 144,size:=1,bytes:=24,zero:=.aF }
 hs62:E.hspec 62=none
 sp62:E.spec 62=none
 fn62:E.fn 62=some (aA Tryz.f62)
 md62:E.mode 62=.fK
 ZL:E.hspec 117=none
 Xf:E.spec 117=none
 aaz:E.fn 117=some (aA Tryz.f117)
 YQ:E.mode 117=.shared
 hs13:E.hspec 13=none
 Oe:E.spec 13=none
 fn13:E.fn 13=some (aA Tryz.f13)
 md13:E.mode 13=.fK
 hs65:E.hspec 65=none
 sp65:E.spec 65=none
 fn65:E.fn 65=some (aA Tryz.f65)
 md65:E.mode 65=.shared
 hs64:E.hspec 64=none
 sp64:E.spec 64=none
 fn64:E.fn 64=some (aA Tryz.f64)
 md64:E.mode 64=.fK
 hs66:E.hspec 66=none
 sp66:E.spec 66=none
 fn66:E.fn 66=some (aA Tryz.f66)
 md66:E.mode 66=.fK
 hs50:E.hspec 50=none
 sp50:E.spec 50=none
 fn50:E.fn 50=some (aA Tryz.f50)
 md50:E.mode 50=.fK
 hs72:E.hspec 72=none
 sp72:E.spec 72=none
 fn72:E.fn 72=some (aA Tryz.f72)
 md72:E.mode 72=.fK
 Wm:fT E (opsOf (cutAt [1,0] (aA Tryz.f62).code))=.no
 X6:cJ E .no (opsOf (cutAt [1,0] (aA Tryz.f62).code))=some [⟨2,4,true,false⟩,  ⟨2,7,true,false⟩,  ⟨2,10,true,false⟩,  ⟨5,7,true,false⟩,  ⟨5,10,true,false⟩,  ⟨8,10,true,false⟩]
 Wl:fT E (opsOf (cutAt [1,1,0,1,2,2,1,1,0,2,1] (aA Tryz.f62).code))=.no
 X5:cJ E .no (opsOf (cutAt [1,1,0,1,2,2,1,1,0,2,1] (aA Tryz.f62).code))=some [⟨1,12,false,true⟩,  ⟨1,19,false,true⟩,  ⟨4,12,false,true⟩,  ⟨4,19,false,true⟩,  ⟨4,22,false,true⟩,  ⟨12,14,true,false⟩,  ⟨12,18,true,false⟩]
 abg:aO E (cutAt [1,1,1,0,1,2,2,1,1,0,2,1,0] (aA Tryz.f13).code)=true
 Wq:fT E (opsOf (cutAt [1,1,1,0,1,2,2,1,1,0,2,1,1,0] (aA Tryz.f13).code))=.no
 X9:cJ E .no (opsOf (cutAt [1,1,1,0,1,2,2,1,1,0,2,1,1,0] (aA Tryz.f13).code))=some [⟨3,7,false,true⟩]
 VH:aO E (cutAt [1,1,1,0,1,2,2,1,1,0,2,1,1,1,1,1,2,2,1,1,0,2,1,0] (aA Tryz.f13).code)=true
 VG:aO E (cutAt [1,1,1,0,1,2,2,1,1,0,2,1,1,1,1,1,2,2,1,1,0,2,1,1] (aA Tryz.f13).code)=true
 Wk:fT E (opsOf (cutAt [1,0] (aA Tryz.f65).code))=.no
 X4:cJ E .no (opsOf (cutAt [1,0] (aA Tryz.f65).code))=some [⟨3,6,false,true⟩]
 aa2:aO E (cutAt [1,1,0] (aA Tryz.f65).code)=true
 Wj:fT E (opsOf (cutAt [1,1,1,2,2,1,1,0,2,1,0,1,0] (aA Tryz.f65).code))=.no
 X2:cJ E .no (opsOf (cutAt [1,1,1,2,2,1,1,0,2,1,0,1,0] (aA Tryz.f65).code))=some [⟨1,4,false,true⟩,  ⟨3,4,false,true⟩]
 Wi:fT E (opsOf (cutAt [1,1,1,2,2,1,1,0,2,1,1] (aA Tryz.f65).code))=.no
 X1:cJ E .no (opsOf (cutAt [1,1,1,2,2,1,1,0,2,1,1] (aA Tryz.f65).code))=some [⟨1,7,false,true⟩,  ⟨3,7,false,true⟩,  ⟨4,7,false,true⟩]
 z72_17:fT E (opsOf (cutAt [1,1,1,1,0,1,2,2,1,1,0,2,1,1,1,1] (aA Tryz.f72).code))=.no
 p72_17:cJ E .no (opsOf (cutAt [1,1,1,1,0,1,2,2,1,1,0,2,1,1,1,1] (aA Tryz.f72).code))=some [⟨2,4,false,true⟩]
section
variable {E:Env}{Z:Sg}{K:V->Sg->Prop}
theorem aB.up {f:Nat}{args:List V}{K:V->Sg->Prop}(h:aB E f args Z K):∃n v σ',K v σ'/\∀m,n<=m->gM E (ev E m) f args Z=some (v,σ'):=by
 obtain⟨n,v,σ',hc,hk⟩:=h
 exact⟨n,v,σ',hk,λm hm=>sZ (mJ E hm) hc⟩
theorem M0 (h:bK E):m_ E 44 true .aF .aF=some true:=by unfold m_;rw[h.gA]
theorem MZ (h:bK E) {g:Bool}{rs:List (List V)}{f:Bool}:m_ E 44 true (.bS g rs f) .aF=some false:=by unfold m_;rw[h.gA]
theorem Nv (h:bK E)(h':tP E) {a:V}{l:List AxS.Step} (ia:IS fQ a l)(hl:l.length<=1000):aB E 117 [a] Z λv σ'=>aV fQ 113 σ' v l/\Kp Z σ'/\∀b,aR v=some b->Z.length<=b:=by
 rw[dR h'.ZL h'.Xf h'.aaz h'.YQ,aY (by kernel_rfl)]
 rcases ia with⟨rfl,rfl⟩ | ⟨g,rs,full,rfl,ha⟩
 ·simp only[aA,Tryz.f117,KP,↓reduceIte,reduceLT,reduceCtorEq,M0 h]
  exact⟨.inl ⟨rfl,rfl⟩,λ_ _ h=>h,λb hb=>by cases hb⟩
 ·obtain⟨rs',e,ha'⟩:=nW (L:=fQ) (x:=.bS g rs full) (l:=l) (.inr ⟨g,rs,full,rfl,ha⟩) (Z++[O.cells 113 [] true])
  obtain⟨w',τ',h1,h2,h3,h4,h5⟩:=iR (ats:=#[44,44]) (Z:=Z++[O.cells 113 [] true]) (w:=.sl Z.length 0 0 none) (l:=[]) (L:=fQ) h.gA rfl h.bR rfl (by decide) (A1 h) rfl (.inr ⟨Z.length,[],true,rfl,aL,.nil⟩) e ha' (dA (b:=1000) (by decide) (by simp only[b8];omega))
  rw[cq]at h2
  simp only[aA,Tryz.f117,KP,↓reduceIte,reduceEqDiff,reduceLT,reduceLeDiff,reduceCtorEq,h.gA,h.bR,MZ h,h1,Ax.fill,fR,ir]
  refine⟨h2,λc o hc=>h3 _ _ (aJ hc) λe=>?_,λb hb=>?_⟩
  ·cases e
   exact absurd (AI.1 hc).1 (b9 _)
  ·rcases h5 b hb with g | g
   ·cases g;exact ae _
   ·simp only[ak,af,b8]at g;omega
end
end
section
section
variable {E:Env}{Z:Sg}{K:V->Sg->Prop}
theorem nJ {α:Type}{L:Lay α}{t:Nat}{Y:Sg}{w:V}{l:List α} (ow:aV L t Y w l):w.aZ=true/\w.cells=[w]:=by
 rcases ow with⟨rfl,-⟩ | ⟨b,rs,ex,rfl,-⟩ <;> exact⟨rfl,rfl⟩
theorem vC {α:Type}{L:Lay α}{t:Nat}{Y:Sg}{w:V}{l:List α}{y:O} (ow:aV L t Y w l)(h:∀b,aR w=some b->2<=b):aV L t (Y.set 0 y) w l:=ow.keep λc o hc ho=>by
 rw[IT (by have:=h c hc;omega)];exact ho
theorem uC {α:Type}{L:Lay α}{t:Nat}{Y:Sg}{w:V}{l:List α}{b:Nat} (ow:aV L t Y w l)(h:aR w=some b):b<Y.length:=by
 rcases ow with⟨rfl,-⟩ | ⟨b',rs,ex,rfl,hb,-⟩
 ·cases h
 ·cases h
  exact (AI.1 hb).1
theorem Gc {Y τ':Sg}(h:Kp Y τ'):Y.length<=τ'.length:=by
 refine oe λhlt=>?_
 obtain⟨o,ho⟩:∃o,Y[τ'.length]?=some o:=⟨_,BY hlt⟩
 exact absurd (AI.1 (h _ _ ho)).1 (b9 _)
theorem abk (h:bK E)(h':tP E) {x:aD}{a b c d:V} (ia:IS aQ a x.ins) (ib:IS aQ b x.outs) (ic:IS aQ c x.after) (id:IS fQ d x.steps)(hs:Small x) (F:FT) (g1:F.get 1=.ref 0 0) {st:List gT}{Q:Ax.X->Fr->Sg->Prop}
  (hk:∀F' Y w1 w2 w3 w4,F'.get 1=.ref 0 0->F'.get 2=F.get 2->Y[0]?=some (O.cells 46 [.str x.name,w1,w2,w3,w4] true)->Y[1]?=some (O.cells 46 [.str [],.aF,.aF,.aF,.aF] true)->aV aQ 9 Y w1 x.ins->aV aQ 9 Y w2 x.outs->aV aQ 9 Y w3 x.after->aV fQ 113 Y w4 x.steps->(∀b,aR w4=some b->2<=b/\aR w1≠some b/\aR w2≠some b/\aR w3≠some b)->M E st .normal ⟨52,F'⟩ Y Q) :
  R E (.region 1 (opsOf (cutAt [1,0] (aA Tryz.f62).code)) true) st ⟨52,F⟩ [O.cells 46 [.str x.name,a,b,c,d] true,O.cells 46 [.str [],.aF,.aF,.aF,.aF] true] Q:=by
 have l1:=hs.ins
 have l2:=hs.outs
 have l3:=hs.after
 have l4:=hs.steps
 obtain⟨n1,w1,τ1,⟨ow1,kp1,fr1⟩,c1⟩:=aB.up (tA (Z:=[O.cells 46 [.str x.name,a,b,c,d] true,O.cells 46 [.str [],.aF,.aF,.aF,.aF] true]) h ia (by omega))
 obtain⟨n2,w2,τ2,⟨ow2,kp2,fr2⟩,c2⟩:=aB.up (tA (Z:=τ1) h ib (by omega))
 obtain⟨n3,w3,τ3,⟨ow3,kp3,fr3⟩,c3⟩:=aB.up (tA (Z:=τ2) h ic (by omega))
 obtain⟨n4,w4,τ4,⟨ow4,kp4,fr4⟩,c4⟩:=aB.up (Nv (Z:=τ3) h h' id (by omega))
 have c1:=c1 (n1+n2+n3+n4) (by omega)
 have c2:=c2 (n1+n2+n3+n4) (by omega)
 have c3:=c3 (n1+n2+n3+n4) (by omega)
 have c4:=c4 (n1+n2+n3+n4) (by omega)
 generalize n1+n2+n3+n4=n at c1 c2 c3 c4
 have k0:∀Y:Sg,Kp [O.cells 46 [.str x.name,a,b,c,d] true,O.cells 46 [.str [],.aF,.aF,.aF,.aF] true] Y->Y[0]?=some (O.cells 46 [.str x.name,a,b,c,d] true)/\Y[1]?=some (O.cells 46 [.str [],.aF,.aF,.aF,.aF] true):=λY hk=>⟨hk 0 _ rfl,hk 1 _ rfl⟩
 have q2:Kp [O.cells 46 [.str x.name,a,b,c,d] true,O.cells 46 [.str [],.aF,.aF,.aF,.aF] true] τ2:=λc o e=>kp2 c o (kp1 c o e)
 have q3:Kp [O.cells 46 [.str x.name,a,b,c,d] true,O.cells 46 [.str [],.aF,.aF,.aF,.aF] true] τ3:=λc o e=>kp3 c o (q2 c o e)
 have q4:Kp [O.cells 46 [.str x.name,a,b,c,d] true,O.cells 46 [.str [],.aF,.aF,.aF,.aF] true] τ4:=λc o e=>kp4 c o (q3 c o e)
 obtain⟨b1,z1⟩:=k0 τ1 kp1
 obtain⟨b2,z2⟩:=k0 τ2 q2
 obtain⟨b3,z3⟩:=k0 τ3 q3
 obtain⟨b4,z4⟩:=k0 τ4 q4
 have hlt4:=(AI.1 b4).1
 have s1:∀y,(τ4.set 0 y)[0]?=some y:=λy=>bj hlt4
 obtain⟨o1,t1⟩:=nJ ow1
 obtain⟨o2,t2⟩:=nJ ow2
 obtain⟨o3,t3⟩:=nJ ow3
 obtain⟨o4,t4⟩:=nJ ow4
 have v1:=cK 10 ia
 have v2:=cK 10 ib
 have v3:=cK 10 ic
 have v4:=oV 9 id
 have key:∃F',bW E (ev E n) (opsOf (cutAt [1,0] (aA Tryz.f62).code)) ⟨52,F⟩ [O.cells 46 [.str x.name,a,b,c,d] true,O.cells 46 [.str [],.aF,.aF,.aF,.aF] true]=some (⟨52,F'⟩,τ4.set 0 (O.cells 46 [.str x.name,w1,w2,w3,w4] true))/\F'.get 1=.ref 0 0/\F'.get 2=F.get 2:=by
  unfold bW
  rw[h'.Wm,h'.X6]
  simp only[aA,Tryz.f62,KP,Ax.loadAt,Ax.storeAt,↓reduceIte,reduceEqDiff,reduceLT,reduceLeDiff,reduceAdd,reduceCtorEq,h.bC,h.gA,h.bM,opsOf,cutAt,fF,bJ,bV,jF,Ax.comp,Ax.last,eL,Ax.again,g1,c1,c2,c3,c4,b1,b2,b3,b4,s1,o1,o2,o3,o4,t1,t2,t3,t4,v2,v3,v4,List.set_set]
  exact⟨_,rfl,(by simp +decide only[GS,g1,ag])⟩
 obtain⟨F',hD,f1,f2⟩:=key
 have n1:=Gc kp1
 have n2:=Gc kp2
 have n3:=Gc kp3
 have n0:([O.cells 46 [.str x.name,a,b,c,d] true,O.cells 46 [.str [],.aF,.aF,.aF,.aF] true]:Sg).length=2:=rfl
 rw[n0]at n1 fr1
 have k2:∀b,aR w2=some b->2<=b:=λb hb=>by have:=fr2 b hb;omega
 have k3:∀b,aR w3=some b->2<=b:=λb hb=>by have:=fr3 b hb;omega
 have k4:∀b,aR w4=some b->2<=b:=λb hb=>by have:=fr4 b hb;omega
 refine Eq.mpr (fO hD) (hk F' _ w1 w2 w3 w4 f1 f2 (s1 _) (by rw[IT (by decide)];exact z4) (vC (ow1.keep λc o _ hc=>kp4 c o (kp3 c o (kp2 c o hc))) fr1) (vC (ow2.keep λc o _ hc=>kp4 c o (kp3 c o hc)) k2) (vC (ow3.keep λc o _ hc=>kp4 c o hc) k3) (vC ow4 k4) λb hb=>⟨k4 b hb,λe=>?_,λe=>?_,λe=>?_⟩)
 ·have:=fr4 b hb;have:=uC ow1 e;omega
 ·have:=fr4 b hb;have:=uC ow2 e;omega
 ·have:=fr4 b hb;have:=uC ow3 e;omega
end
end
section
section
variable {E:Env}{Z:Sg}{K:V->Sg->Prop}
theorem Ay {k:Nat}(hk:k<5):∀{R:List (List V)}{i:Nat}{r:List V},(∀x∈R,x.length=5)->R[i]?=some r->R.flatten[i*5+k]?=r[k]?
 | [],_,_,_,h=>by cases h
 |x::R,0,r,hx,h=>by
  cases h
  rw[da,ir,dj,aq (by rw[hx _ (By ..)];exact hk)]
 |x::R,i+1,r,hx,h=>by
  have hl:=hx _ (By ..)
  rw[da,bp (by omega),show (i+1)*5+k-x.length=i*5+k by omega]
  exact Ay hk (λy hy=>hx y (No _ hy)) h
theorem E8 {k:Nat}{v:V}(hk:k<5):∀{R:List (List V)}{i:Nat}{r:List V},(∀x∈R,x.length=5)->R[i]?=some r->setCells R.flatten (i*5+k) [v]=(R.set i (r.set k v)).flatten
 | [],_,_,_,h=>by cases h
 |x::R,0,r,hx,h=>by
  cases h
  have hl:=hx _ (By ..)
  rw[jq,da,da,ir,dj]
  unfold setCells
  rw[List.take_append_of_le_length (by omega),List.drop_append_of_le_length (by rw[dz];omega),List.set_eq_take_append_cons_drop,bf (by omega)]
  simp
 |x::R,i+1,r,hx,h=>by
  have hl:=hx _ (By ..)
  have ih:=E8 (v:=v) hk (λy hy=>hx y (No _ hy)) h
  rw[nh,da,da,<- ih]
  unfold setCells
  rw[List.take_append,ah (by omega),show (i+1)*5+k-x.length=i*5+k by omega,List.drop_append,jk (by omega),show (i+1)*5+k + [v].length-x.length=i*5+k + [v].length by omega]
  simp
theorem JJ (h:bK E) {Y:Sg}{b i k:Nat}{R:List (List V)}{r:List V}{v:V}{ex:Bool}(hb:Y[b]?=some (.cells 113 R.flatten ex))(hx:∀x∈R,x.length=5)(hr:R[i]?=some r)(hk:k<5)(hv:r[k]?=some v):loadAt E Y 24 (.ref b (i*5+k))=some v:=by
 unfold Ax.loadAt
 simp only[h.bC,hb,Ay hk hx hr,hv,Ax.isAgg]
 rfl
theorem NY (h:bK E) {Y:Sg}{b i k:Nat}{R:List (List V)}{r:List V}{v:V}{ex:Bool}(hb:Y[b]?=some (.cells 113 R.flatten ex))(hx:∀x∈R,x.length=5)(hr:R[i]?=some r)(hk:k<5)(hc:v.cells=[v])(ho:v.aZ=true):storeAt E Y 24 (.ref b (i*5+k)) v=some (Y.set b (.cells 113 (R.set i (r.set k v)).flatten ex)):=by
 unfold Ax.storeAt
 have hl:i*5+k+1<=R.flatten.length:=by
  have:=Ay hk hx hr
  have hrl:=hx r (aa hr)
  rw[BY (show k<r.length by omega)]at this
  have:=(AI.1 this).1
  omega
 simp only[h.bC,hb,hc,af,b8,ig,js,ho,AT hl,E8 hk hx hr]
 rfl
theorem Vn (h:bK E) {b n i:Nat}(hi:i<n):indexAddr E 44 (.sl b 0 n none) (.int .i64 (i:Int))=some (.ref b (i*5)):=by
 unfold Ax.indexAddr
 simp only[h.gA,h.bR,show ¬ ((i:Int)<0) by omega,ay,cv,hi,bh,dj]
theorem Ou {R:List (List V)}{i k:Nat}{r:List V}{v:V}(hx:∀x∈R,x.length=5)(hr:R[i]?=some r):∀x∈R.set i (r.set k v),x.length=5:=λx hm=>by
 rcases List.mem_or_eq_of_mem_set hm with hm | rfl
 ·exact hx x hm
 ·rw[ec];exact hx r (aa hr)
theorem abj (h:bK E)(h':tP E) {x:aD}{w1 w2 w3 p q:V}{s:AxS.Step}{b n i:Nat}{R:List (List V)}{ex:Bool}{Y:Sg}(h0:Y[0]?=some (O.cells 46 [.str x.name,w1,w2,w3,.sl b 0 n none] true))(hb:Y[b]?=some (.cells 113 R.flatten ex))(hx:∀x∈R,x.length=5)(hr:R[i]?=some ([.str s.out,.int .i64 s.op,p,q,.int .i64 s.n]))(hi:i<n) (ip:IS aQ p s.args) (iq:IS aQ q s.lits) (l1:s.args.length<=8) (l2:s.lits.length<=3)(hb2:2<=b)
  (F:FT) (g1:F.get 1=.ref 0 0) (g3:F.get 3=.int .i64 (i:Int)) {st:List gT}{Q:Ax.X->Fr->Sg->Prop}
  (hk:∀F' τ' wp wq,(∀k,k∈[1,2,22,23]->F'.get k=F.get k)->τ'[b]?=some (.cells 113 (R.set i ([.str s.out,.int .i64 s.op,wp,wq,.int .i64 s.n])).flatten ex)->aV aQ 9 τ' wp s.args->aV aQ 9 τ' wq s.lits->(∀(c:Nat) (o:O),Y[c]?=some o->c≠b->τ'[c]?=some o)->(∀c,aR wp=some c->Y.length<=c)->(∀c,aR wq=some c->Y.length<=c)->M E st .normal ⟨52,F'⟩ τ' Q) :
  Ax.R E (.region 5 (opsOf (cutAt [1,1,0,1,2,2,1,1,0,2,1] (aA Tryz.f62).code)) true) st ⟨52,F⟩ Y Q:=by
 obtain⟨n1,wp,τ1,⟨ow1,kp1,fr1⟩,c1⟩:=aB.up (tA (Z:=Y) h ip (by omega))
 obtain⟨n2,wq,τ2,⟨ow2,kp2,fr2⟩,c2⟩:=aB.up (tA (Z:=τ1) h iq (by omega))
 have c1:=c1 (n1+n2) (by omega)
 have c2:=c2 (n1+n2) (by omega)
 generalize n1+n2=m at c1 c2
 have h01:=kp1 _ _ h0
 have h02:=kp2 _ _ h01
 have hb1:=kp1 _ _ hb
 have hb2':=kp2 _ _ hb1
 obtain⟨o1,t1⟩:=nJ ow1
 obtain⟨o2,t2⟩:=nJ ow2
 have e1:=Vn h hi (b:=b) (n:=n)
 have f1:=JJ h hb hx hr (k:=2) (by decide) rfl
 have f2:=JJ h hb1 hx hr (k:=3) (by decide) rfl
 have f2'':=JJ h hb hx hr (k:=3) (by decide) rfl
 have s1:=NY h hb2' hx hr (k:=2) (v:=wp) (by decide) t1 o1
 have hbl:=(AI.1 hb2').1
 have hR:(R.set i ([.str s.out,.int .i64 s.op,wp,q,.int .i64 s.n]))[i]?=some ([.str s.out,.int .i64 s.op,wp,q,.int .i64 s.n]):=bj (AI.1 hr).1
 have s2:=NY h (Y:=τ2.set b (.cells 113 (R.set i ([.str s.out,.int .i64 s.op,wp,q,.int .i64 s.n])).flatten ex)) (v:=wq) (bj hbl) (Ou (k:=2) (v:=wp) hx hr) hR (k:=3) (by decide) t2 o2
 have s1:storeAt E τ2 24 (.ref b (i*5+2)) wp=some (τ2.set b (.cells 113 (R.set i ([.str s.out,.int .i64 s.op,wp,q,.int .i64 s.n])).flatten ex)):=s1
 have s2:storeAt E (τ2.set b (.cells 113 (R.set i ([.str s.out,.int .i64 s.op,wp,q,.int .i64 s.n])).flatten ex)) 24 (.ref b (i*5+3)) wq=some (τ2.set b (.cells 113 (R.set i ([.str s.out,.int .i64 s.op,wp,wq,.int .i64 s.n])).flatten ex)):=by
  rw[s2,List.set_set,List.set_set]
  rfl
 have lw:loadAt E Y 44 (.ref 0 4)=some (.sl b 0 n none):=by unfold Ax.loadAt;simp only[h.gA,h0];rfl
 have lw1:loadAt E τ1 44 (.ref 0 4)=some (.sl b 0 n none):=by unfold Ax.loadAt;simp only[h.gA,h01];rfl
 have lw2:loadAt E τ2 44 (.ref 0 4)=some (.sl b 0 n none):=by unfold Ax.loadAt;simp only[h.gA,h02];rfl
 have lw3:∀y,loadAt E (τ2.set b y) 44 (.ref 0 4)=some (.sl b 0 n none):=λy=>by
  have h03:(τ2.set b y)[0]?=some (O.cells 46 [.str x.name,w1,w2,w3,.sl b 0 n none] true):=by rw[IT (by omega)];exact h02
  unfold Ax.loadAt;simp only[h.gA,h03];rfl
 have vq:=cK 10 iq
 have v0:pA 12 (.sl b 0 n none) (.sl b 0 n none)=true:=by unfold pA;simp
 have key:∃F',bW E (ev E m) (opsOf (cutAt [1,1,0,1,2,2,1,1,0,2,1] (aA Tryz.f62).code)) ⟨52,F⟩ Y=some (⟨52,F'⟩,τ2.set b (.cells 113 (R.set i ([.str s.out,.int .i64 s.op,wp,wq,.int .i64 s.n])).flatten ex))/\(∀k,k∈[1,2,22,23]->F'.get k=F.get k):=by
  unfold bW
  rw[h'.Wl,h'.X5]
  simp only[aA,Tryz.f62,KP,↓reduceIte,reduceEqDiff,reduceLT,reduceAdd,reduceCtorEq,h.bC,h.gA,h.bM,h.bR,opsOf,cutAt,fF,bJ,bV,jF,Ax.comp,Ax.last,eL,Ax.again,g1,g3,c1,c2,lw,lw1,lw2,lw3,e1,f1,f2,f2'',s1,s2,vq,v0]
  refine⟨_,rfl,λk hk=>?_⟩
  simp only[IN,ck,fh]at hk
  rcases hk with rfl | rfl | rfl | rfl <;> simp +decide only[GS]
 obtain⟨F',hD,hF⟩:=key
 have hlen1:=Gc kp1
 have hne:∀{w:V},(∀c,aR w=some c->Y.length<=c)->aR w≠some b:=λhfr e=>by
  have:=hfr b e
  have:=(AI.1 hb).1
  omega
 have fr2':∀c,aR wq=some c->Y.length<=c:=λc hc=>by have:=fr2 c hc;omega
 refine Eq.mpr (fO hD) (hk F' _ wp wq hF (bj hbl) (aV.set (ow1.keep λc o _ hc=>kp2 c o hc) (hne fr1)) (aV.set ow2 (hne fr2')) (λc o hc hcb=>?_) fr1 fr2')
 rw[IT (ju hcb)]
 exact kp2 _ _ (kp1 _ _ hc)
end
end
end Go.Proofs.YtmhchflckonklaaGreatDoor
end
