/- Part 17 of the proof. -/
import Derived.Test.YtmbikbgdbbcbmaaGreatDoorY
import Derived.Test.YtmbikbgdbbcbmaaGreatDoorZ16
import Derived.Test.YtmbikbgdbbcbmaaGreatDoorZ13
set_option maxHeartbeats 8000000
set_option linter.unusedVariables false
set_option maxRecDepth 10000
open Nat (reduceEqDiff reduceLT reduceAdd reduceLeDiff reduceMul)
open Int (reduceNeg)
section
namespace Go.Proofs.YtmbikbgdbbcbmaaGreatDoor
open Go Go.Ax Go.AxS
section
section
variable {E:Env}{Z:Sg}{K:V->Sg->Prop}
theorem W4 (h:bE E) {c:Nat}:aB E 266 [.int .i32 (c:Int)] Z K=K (.bool (sign c)) Z:=by
 refine aB.of ?_;rw[aI h.aah h.XQ h.aa8 h.Zn (args':=[.int .i32 (c:Int)]) (by simp only[aX,show aU Z E.ty true (.int .i32 (c:Int))=some (.int .i32 (c:Int)) from rfl]),aW (by kernel_rfl)];have hcut:(0<=c/\c<=44)\/(45<=c/\c<=45)\/(46<=c/\c<=46)\/(47<=c/\c<=47)\/(48<=c/\c<=57)\/(58<=c/\c<=64)\/(65<=c/\c<=90)\/(91<=c/\c<=94)\/(95<=c/\c<=95)\/(96<=c/\c<=96)\/(97<=c/\c<=122)\/(123<=c/\123<=c):=by omega
 rcases hcut with⟨h1,h2⟩ | ⟨h1,h2⟩ | ⟨h1,h2⟩ | ⟨h1,h2⟩ | ⟨h1,h2⟩ | ⟨h1,h2⟩ | ⟨h1,h2⟩ | ⟨h1,h2⟩ | ⟨h1,h2⟩ | ⟨h1,h2⟩ | ⟨h1,h2⟩ | ⟨h1,h2⟩
 ·rw[show sign c=false from by unfold sign;simp;omega];have q0:decide ((97:Int)<=(c:Int))=false:=AS (by omega);have q2:decide ((65:Int)<=(c:Int))=false:=AS (by omega);have q4:decide ((48:Int)<=(c:Int))=false:=AS (by omega);have q6:decide ((c:Int)=46)=false:=AS (by omega);have q7:decide ((c:Int)=95)=false:=AS (by omega);have q8:decide ((c:Int)=45)=false:=AS (by omega);simp only[aA,Tryz.f266,KP,↓reduceIte,reduceEqDiff,reduceLT,reduceCtorEq,q0,q2,q4,q6,q7,q8];exact rfl
 ·rw[show sign c=true from by unfold sign;simp;omega];have q0:decide ((97:Int)<=(c:Int))=false:=AS (by omega);have q2:decide ((65:Int)<=(c:Int))=false:=AS (by omega);have q4:decide ((48:Int)<=(c:Int))=false:=AS (by omega);have q6:decide ((c:Int)=46)=false:=AS (by omega);have q7:decide ((c:Int)=95)=false:=AS (by omega);have q8:decide ((c:Int)=45)=true:=BY (by omega);simp only[aA,Tryz.f266,KP,↓reduceIte,reduceEqDiff,reduceLT,reduceCtorEq,q0,q2,q4,q6,q7,q8];exact rfl
 ·rw[show sign c=true from by unfold sign;simp;omega];have q0:decide ((97:Int)<=(c:Int))=false:=AS (by omega);have q2:decide ((65:Int)<=(c:Int))=false:=AS (by omega);have q4:decide ((48:Int)<=(c:Int))=false:=AS (by omega);have q6:decide ((c:Int)=46)=true:=BY (by omega);simp only[aA,Tryz.f266,KP,↓reduceIte,reduceEqDiff,reduceLT,reduceCtorEq,q0,q2,q4,q6];exact rfl
 ·rw[show sign c=false from by unfold sign;simp;omega];have q0:decide ((97:Int)<=(c:Int))=false:=AS (by omega);have q2:decide ((65:Int)<=(c:Int))=false:=AS (by omega);have q4:decide ((48:Int)<=(c:Int))=false:=AS (by omega);have q6:decide ((c:Int)=46)=false:=AS (by omega);have q7:decide ((c:Int)=95)=false:=AS (by omega);have q8:decide ((c:Int)=45)=false:=AS (by omega);simp only[aA,Tryz.f266,KP,↓reduceIte,reduceEqDiff,reduceLT,reduceCtorEq,q0,q2,q4,q6,q7,q8];exact rfl
 ·rw[show sign c=true from by unfold sign;simp;omega];have q0:decide ((97:Int)<=(c:Int))=false:=AS (by omega);have q2:decide ((65:Int)<=(c:Int))=false:=AS (by omega);have q4:decide ((48:Int)<=(c:Int))=true:=BY (by omega);have q5:decide ((c:Int)<=57)=true:=BY (by omega);simp only[aA,Tryz.f266,KP,↓reduceIte,reduceEqDiff,reduceLT,reduceCtorEq,q0,q2,q4,q5];exact rfl
 ·rw[show sign c=false from by unfold sign;simp;omega];have q0:decide ((97:Int)<=(c:Int))=false:=AS (by omega);have q2:decide ((65:Int)<=(c:Int))=false:=AS (by omega);have q4:decide ((48:Int)<=(c:Int))=true:=BY (by omega);have q5:decide ((c:Int)<=57)=false:=AS (by omega);have q6:decide ((c:Int)=46)=false:=AS (by omega);have q7:decide ((c:Int)=95)=false:=AS (by omega);have q8:decide ((c:Int)=45)=false:=AS (by omega);simp only[aA,Tryz.f266,KP,↓reduceIte,reduceEqDiff,reduceLT,reduceCtorEq,q0,q2,q4,q5,q6,q7,q8];exact rfl
 ·rw[show sign c=true from by unfold sign;simp;omega];have q0:decide ((97:Int)<=(c:Int))=false:=AS (by omega);have q2:decide ((65:Int)<=(c:Int))=true:=BY (by omega);have q3:decide ((c:Int)<=90)=true:=BY (by omega);simp only[aA,Tryz.f266,KP,↓reduceIte,reduceEqDiff,reduceLT,reduceCtorEq,q0,q2,q3];exact rfl
 ·rw[show sign c=false from by unfold sign;simp;omega];have q0:decide ((97:Int)<=(c:Int))=false:=AS (by omega);have q2:decide ((65:Int)<=(c:Int))=true:=BY (by omega);have q3:decide ((c:Int)<=90)=false:=AS (by omega);have q4:decide ((48:Int)<=(c:Int))=true:=BY (by omega);have q5:decide ((c:Int)<=57)=false:=AS (by omega);have q6:decide ((c:Int)=46)=false:=AS (by omega);have q7:decide ((c:Int)=95)=false:=AS (by omega);have q8:decide ((c:Int)=45)=false:=AS (by omega);simp only[aA,Tryz.f266,KP,↓reduceIte,reduceEqDiff,reduceLT,reduceCtorEq,q0,q2,q3,q4,q5,q6,q7,q8];exact rfl
 ·rw[show sign c=true from by unfold sign;simp;omega];have q0:decide ((97:Int)<=(c:Int))=false:=AS (by omega);have q2:decide ((65:Int)<=(c:Int))=true:=BY (by omega);have q3:decide ((c:Int)<=90)=false:=AS (by omega);have q4:decide ((48:Int)<=(c:Int))=true:=BY (by omega);have q5:decide ((c:Int)<=57)=false:=AS (by omega);have q6:decide ((c:Int)=46)=false:=AS (by omega);have q7:decide ((c:Int)=95)=true:=BY (by omega);simp only[aA,Tryz.f266,KP,↓reduceIte,reduceEqDiff,reduceLT,reduceCtorEq,q0,q2,q3,q4,q5,q6,q7];exact rfl
 ·rw[show sign c=false from by unfold sign;simp;omega];have q0:decide ((97:Int)<=(c:Int))=false:=AS (by omega);have q2:decide ((65:Int)<=(c:Int))=true:=BY (by omega);have q3:decide ((c:Int)<=90)=false:=AS (by omega);have q4:decide ((48:Int)<=(c:Int))=true:=BY (by omega);have q5:decide ((c:Int)<=57)=false:=AS (by omega);have q6:decide ((c:Int)=46)=false:=AS (by omega);have q7:decide ((c:Int)=95)=false:=AS (by omega);have q8:decide ((c:Int)=45)=false:=AS (by omega);simp only[aA,Tryz.f266,KP,↓reduceIte,reduceEqDiff,reduceLT,reduceCtorEq,q0,q2,q3,q4,q5,q6,q7,q8];exact rfl
 ·rw[show sign c=true from by unfold sign;simp;omega];have q0:decide ((97:Int)<=(c:Int))=true:=BY (by omega);have q1:decide ((c:Int)<=122)=true:=BY (by omega);simp only[aA,Tryz.f266,KP,↓reduceIte,reduceEqDiff,reduceLT,reduceCtorEq,q0,q1];exact rfl
 ·rw[show sign c=false from by unfold sign;simp;omega];have q0:decide ((97:Int)<=(c:Int))=true:=BY (by omega);have q1:decide ((c:Int)<=122)=false:=AS (by omega);have q2:decide ((65:Int)<=(c:Int))=true:=BY (by omega);have q3:decide ((c:Int)<=90)=false:=AS (by omega);have q4:decide ((48:Int)<=(c:Int))=true:=BY (by omega);have q5:decide ((c:Int)<=57)=false:=AS (by omega);have q6:decide ((c:Int)=46)=false:=AS (by omega);have q7:decide ((c:Int)=95)=false:=AS (by omega);have q8:decide ((c:Int)=45)=false:=AS (by omega);simp only[aA,Tryz.f266,KP,↓reduceIte,reduceEqDiff,reduceLT,reduceCtorEq,q0,q1,q2,q3,q4,q5,q6,q7,q8];exact rfl
theorem We (h:bE E) {c:Nat}:KC E 266 [.int .i32 (c:Int)] Z (.bool (sign c)) Z:=dD λ_=>W4 h
theorem NY (h:bE E) {c:Nat}:aB E 265 [.int .i32 (c:Int)] Z K=K (.bool (!sign c)) Z:=by
 refine aB.of ?_;rw[aI h.aai h.XR h.aa9 h.Zo (args':=[.int .i32 (c:Int)]) (by simp only[aX,show aU Z E.ty true (.int .i32 (c:Int))=some (.int .i32 (c:Int)) from rfl]),aW (by kernel_rfl)];have ks:=λ(Y:Sg)=>We (Z:=Y) h (c:=c);simp only[aA,Tryz.f265,KP,↓reduceIte,reduceLT,reduceCtorEq,ks];exact rfl
theorem byte_at {s:bC}{pos ch:Nat}(hc:s[pos]?=some ch)(h:ch<256):((sI s).get! pos).toNat=ch:=by
 show ((s.map UInt8.ofNat).toArray[pos]!).toNat=ch;have e:(s.map UInt8.ofNat).toArray[pos]?=some (UInt8.ofNat ch):=by simp[hc]
 rw[getElem!_def,e];simp only[UInt8.toNat_ofNat'];omega
theorem Sb {s:bC}{pos ch:Nat}(hc:s[pos]?=some ch)(h1:¬ ch<128)(h2:ch<256):128<=(Utf8.decode (sI s) pos).1:=by
 unfold Utf8.decode;simp only[lg,byte_at hc h2,h1,ay]
 repeat' split
 all_goals first
  |(simp only[Utf8.runeError];omega)
  |(simp only[ai,gr,aa,ge_iff_le]at *;omega)
theorem H6 {c:Nat}(h:128<=c):sign c=false:=by
 unfold sign;simp;omega
theorem Kr (h:bE E):mP E 4 false (.bool true) (.bool true)=some true:=by unfold mP;rw[h.Ee];rfl
theorem WD (h:bE E):mP E 4 false (.bool false) (.bool true)=some false:=by unfold mP;rw[h.Ee];rfl
theorem b_xF (h:bE E) {s:bC}{k:Nat}{P:Nat->Bool}(hsm:s.length<=4294967296)(hP:∀(Z:Sg) (r:Nat),aB E k [.int .i32 (r:Int)] Z λu Y=>Y=Z/\u=.bool (P r))(hhi:∀r,128<=r->P r=true):aB E 321 [.str s,.fn k [] [],.bool true] Z λv Y=>Y=Z/\∃n:Int,v=.int .i64 n/\decide (0<=n)=s.any P:=by
 have ef:=sM (E:=E) (k:=k) (caps:=[]) (λ_ h=>by cases h) Z;rw[aI h.aaf h.XN h.aa6 h.Zl (args':=[.str s,.fn k [] [],.bool true]) (by simp only[aX,dK,ef,show aU Z E.ty true (.bool true)=some (.bool true) from rfl]),aW (by kernel_rfl)];simp only[aA,Tryz.f321,KP,↓reduceIte,reduceLT,reduceAdd,reduceCtorEq,reduceNeg,h.dG,pU];refine aV (λi F Y=>Y=[.Jk s i]/\F.get 1=.fn k [] []/\F.get 2=.bool true/\F.get 10=.ref 0 0/\∀j y,j<i->s[j]?=some y->P y=false) s.length ?_ ?_ s.length 0 _ _ (by omega) ⟨rfl,(iU (by simp +decide only[GS,aj]) (λj y hj=>by omega))⟩
 ·rintro i F Y hi ⟨rfl,g1,g2,g10,hp⟩ next
  obtain⟨x,hx⟩:∃x,s[i]?=some x:=⟨_,AT hi⟩;rw[aG];by_cases h128:x<128
  ·simp only[KP,↓reduceIte,reduceEqDiff,reduceLT,reduceNeg,g1,g10,wY,hx,h128];refine aN (hP _ x) ?_;rintro u Y ⟨rfl,rfl⟩;by_cases hxs:P x=true
   ·simp only[KP,↓reduceIte,reduceEqDiff,reduceLT,reduceNeg,g2,hxs,Kr h];exact⟨_,rfl,by rw[show s.any P=true from fg.2 ⟨x,ag hx,hxs⟩];exact BY (by omega)⟩
   ·have hxs:P x=false:=by simpa using hxs
    simp only[KP,↓reduceIte,reduceEqDiff,reduceLT,reduceNeg,g2,hxs,WD h];refine next _ _ ⟨rfl,(iU (by simp +decide only[GS,g1,g2,g10,aj]) (λj y hj hy=>?_))⟩
    rcases cj j i with g | g
    ·exact hp j y g hy
    ·obtain rfl:j=i:=by omega
     rw[hx]at hy;cases hy;exact hxs
  have hany:s.any P=true:=fg.2 ⟨x,ag hx,hhi x (by omega)⟩;by_cases h256:x<256
  ·simp only[KP,↓reduceIte,reduceEqDiff,reduceLT,reduceNeg,g1,g10,wY,hx,h128,h256];refine aN (hP _ (Utf8.decode (sI s) i).1) ?_;rintro u Y ⟨rfl,rfl⟩;have hxs:=hhi _ (Sb hx h128 h256);simp only[KP,↓reduceIte,reduceEqDiff,reduceLT,reduceNeg,g2,hxs,Kr h];exact⟨_,rfl,by rw[hany];exact BY (by omega)⟩
  ·simp only[KP,↓reduceIte,reduceEqDiff,reduceLT,reduceNeg,g1,g10,wY,hx,h128,h256];refine aN (hP _ 65533) ?_;rintro u Y ⟨rfl,rfl⟩;have hxs:=hhi _ (show 128<=65533 by omega);simp only[KP,↓reduceIte,reduceEqDiff,reduceLT,reduceNeg,g2,hxs,Kr h];exact⟨_,rfl,by rw[hany];exact BY (by omega)⟩
 ·rintro F Y ⟨rfl,g1,g2,g10,hp⟩;have hx:s[s.length]?=none:=j8 (OF _);rw[aG];simp only[KP,↓reduceIte,reduceLT,reduceNeg,g10,wY,hx];refine⟨-1,rfl,?_⟩
  rw[show s.any P=false from mu.2 λx hx=>by
   obtain⟨j,hj,e⟩:=fm hx;rw[hp j x hj (by rw[AT hj,e])];simp]
  rfl
theorem Xa (h:bE E) {s:bC}{k:Nat}{P:Nat->Bool}(hsm:s.length<=4294967296)(hP:∀(Z:Sg) (r:Nat),aB E k [.int .i32 (r:Int)] Z λu Y=>Y=Z/\u=.bool (P r))(hhi:∀r,128<=r->P r=true):aB E 300 [.str s,.fn k [] []] Z λv Y=>Y=Z/\∃n:Int,v=.int .i64 n/\decide (0<=n)=s.any P:=by
 have ef:=sM (E:=E) (k:=k) (caps:=[]) (λ_ h=>by cases h) Z;rw[aI h.aag h.XO h.aa7 h.Zm (args':=[.str s,.fn k [] []]) (by simp only[aX,dK,ef]),aW (by kernel_rfl)];simp only[aA,Tryz.f300,KP,↓reduceIte,reduceEqDiff,reduceLT,reduceAdd,reduceCtorEq];refine aN (b_xF h hsm hP hhi) ?_;rintro v Y ⟨rfl,n,rfl,hn⟩;simp only[KP,↓reduceIte,reduceLT];exact⟨n,rfl,hn⟩
theorem Uc (h:bE E) {s:bC}{k:Nat}{P:Nat->Bool}(hsm:s.length<=4294967296)(hP:∀(Z:Sg) (r:Nat),aB E k [.int .i32 (r:Int)] Z λu Y=>Y=Z/\u=.bool (P r))(hhi:∀r,128<=r->P r=true):aB E 264 [.str s,.fn k [] []] Z K=K (.bool (s.any P)) Z:=by
 refine aB.of ?_;have ef:=sM (E:=E) (k:=k) (caps:=[]) (λ_ h=>by cases h) Z;rw[aI h.aaj h.XS h.aba h.Zp (args':=[.str s,.fn k [] []]) (by simp only[aX,dK,ef]),aW (by kernel_rfl)];simp only[aA,Tryz.f264,KP,↓reduceIte,reduceEqDiff,reduceLT,reduceAdd,reduceCtorEq];refine aN (Xa h hsm hP hhi) ?_;rintro v Y ⟨rfl,n,rfl,hn⟩;simp only[KP,↓reduceIte,reduceLT,hn];exact rfl
theorem acu (h:bE E) {p:bC}(hsm:p.length<=4294967296):aB E 237 [.str p] Z K=K (.bool (!sV p)) Z:=by
 refine aB.of ?_;rw[aI h.aal h.XU h.abc h.Zr (args':=[.str p]) (by simp only[aX,dK]),aW (by kernel_rfl)];by_cases h1:p=[]
 ·have q1:=iM h1;simp only[aA,Tryz.f237,KP,↓reduceIte,reduceEqDiff,reduceLT,reduceCtorEq,lP,q1];rw[AF (.inl h1)];exact rfl
 have q1:=gL h1;by_cases h2:p=[46]
 ·have q2:=iM h2;simp only[aA,Tryz.f237,KP,↓reduceIte,reduceEqDiff,reduceLT,reduceCtorEq,lP,NJ,q1,q2];rw[AF (.inr (.inl h2))];exact rfl
 have q2:=gL h2;by_cases h3:p=[46,46]
 ·have q3:=iM h3;simp only[aA,Tryz.f237,KP,↓reduceIte,reduceEqDiff,reduceLT,reduceCtorEq,lP,NJ,TS,q1,q2,q3];rw[AF (.inr (.inr h3))];exact rfl
 have q3:=gL h3;have kc:=λ(Y:Sg)=>dD (λK=>Uc (Z:=Y) (K:=K) (s:=p) (k:=265) (P:=λc=>!sign c) h hsm (λY r=>by rw[NY h];exact⟨rfl,rfl⟩) (λr hr=>by rw[H6 hr];rfl));simp only[aA,Tryz.f237,KP,↓reduceIte,reduceEqDiff,reduceLT,reduceCtorEq,lP,NJ,TS,q1,q2,q3,kc];rw[J2 h1 h2 h3,l9];exact rfl
theorem AQ:∀l:List bC,eJ aO.P (l.map λp=>[V.str p]) l
 | []=>.nil
 |_::l=>.cons rfl (AQ l)
theorem QZ (h:bE E) {s:bC}(hsm:s.length<=1000000000):aB E 236 [.str s] Z λv Y=>Y=Z/\kI aO v (cP 47 s):=by
 rw[aI h.aam h.XV h.abd h.Zs (args':=[.str s]) (by simp only[aX,dK]),aW (by kernel_rfl)]
 have hs:kJ [.str s,.str [47]]=some (.bS false ((cP 47 s).map λp=>[V.str p]) true):=by
  unfold kJ;exact az (by omega)
 have iv:kI aO (.bS false ((cP 47 s).map λp=>[V.str p]) true) (cP 47 s):=.inr ⟨_,_,rfl,AQ _⟩;have h5:∀Z,cG Z E.ty false (.bS false ((cP 47 s).map λp=>[V.str p]) true)=some (.bS false ((cP 47 s).map λp=>[V.str p]) true):=λZ=>(show cG Z E.ty false (.bS false ((cP 47 s).map λp=>[V.str p]) true)=aU Z E.ty false (.bS false ((cP 47 s).map λp=>[V.str p]) true) from rfl).trans (cJ iv.is.bD iv.tag);have kc:=λ(Y:Sg)=>dD (λK=>qL (Z:=Y) (K:=K) (args:=[.str s,.str [47]]) (args':=[.str s,.str [47]]) h.aaw h.X6 (by simp only[aX,dK]) hs (h5 []));have hb:Ax.bytes ⟨#[47]⟩=[47]:=rfl;simp only[aA,Tryz.f236,KP,↓reduceIte,reduceLT,reduceCtorEq,kc,h5,hb];exact iv
theorem Gp {s:bC}(h:¬ s.length<=40):bI s=false:=by unfold bI;rw[AS h];simp
theorem qQ {s:bC}(h:pP s=true):bI s=false:=by unfold bI;rw[h];rfl
theorem acv (h:bE E) {s:bC}:aB E 199 [.str s] Z K=K (.bool (bI s)) Z:=by
 refine aB.of ?_;rw[aI h.aat h.X2 h.abl h.Zz (args':=[.str s]) (by simp only[aX,dK]),aW (by kernel_rfl)];by_cases w0:s=[114,117,108,101]
 ·have e0:=iM w0;simp only[aA,Tryz.f199,KP,↓reduceIte,reduceLT,reduceCtorEq,DP,e0];rw[qQ (by rw[w0];rfl)];exact rfl
 have e0:=gL w0;by_cases w1:s=[105,110]
 ·have e1:=iM w1;simp only[aA,Tryz.f199,KP,↓reduceIte,reduceEqDiff,reduceLT,reduceCtorEq,DP,GN,e0,e1];rw[qQ (by rw[w1];rfl)];exact rfl
 have e1:=gL w1;by_cases w2:s=[111,117,116]
 ·have e2:=iM w2;simp only[aA,Tryz.f199,KP,↓reduceIte,reduceEqDiff,reduceLT,reduceCtorEq,DP,GN,Ku,e0,e1,e2];rw[qQ (by rw[w2];rfl)];exact rfl
 have e2:=gL w2;by_cases w3:s=[97,102,116,101,114]
 ·have e3:=iM w3;simp only[aA,Tryz.f199,KP,↓reduceIte,reduceEqDiff,reduceLT,reduceCtorEq,DP,GN,Ku,QC,e0,e1,e2,e3];rw[qQ (by rw[w3];rfl)];exact rfl
 have e3:=gL w3;by_cases h40:s.length<=40
 case neg=>
  have q1:decide ((s.length:Int)<=40)=false:=AS (by omega);rw[Gp h40];simp only[aA,Tryz.f199,KP,↓reduceIte,reduceEqDiff,reduceLT,reduceCtorEq,fT h,DP,GN,Ku,QC,e0,e1,e2,e3,q1];exact rfl
 have q1:decide ((s.length:Int)<=40)=true:=BY (by omega);have hr:pP s=false:=by unfold pP;rw[AS w0,AS w1,AS w2,AS w3];rfl
 rw[PE hr h40];simp only[aA,Tryz.f199,KP,↓reduceIte,reduceEqDiff,reduceLT,reduceCtorEq,fT h,DP,GN,Ku,QC,e0,e1,e2,e3,q1];refine aN (QZ h (by omega)) ?_;rintro v σ' ⟨rfl,hv⟩;have hPl:=sL 47 s;have hPp:=uN (s:=s) rfl;generalize cP 47 s=P at *
 have kc:=λ(Y:Sg)=>L6 (Z:=Y) (k:=237) (caps:=[]) (P:=λp=>!sV p) h (hv.is.ls Y 9) (by omega) (λ_ h=>by cases h) (λy v hy hv=>by
  subst hv;have:=hPp y hy;show aB E 237 [.str y] [] _;rw[acu h (by omega)];exact⟨rfl,rfl⟩)
 simp only[KP,↓reduceIte,reduceEqDiff,reduceLT,kc];rw[<- l9,Bool.not_not];exact rfl
theorem aac (h:bE E) {s:bC}:KC E 199 [.str s] Z (.bool (bI s)) Z:=dD λ_=>acv h
end
end
section
section
variable {E:Env}{Z:Sg}{K:V->Sg->Prop}
theorem QX (h:bE E) {p:Int}:aB E 183 [.int .i64 p] Z K=K (.fM [.int .i64 ((counts p).1:Nat),.int .i64 ((counts p).2.1:Nat),.int .i64 ((counts p).2.2:Nat)]) Z:=by
 refine aB.of ?_;rw[aI h.aay h.X8 h.abp h.ZD (args':=[.int .i64 p]) (by simp only[aX,show aU Z E.ty true (.int .i64 p)=some (.int .i64 p) from rfl]),aW (by kernel_rfl)];by_cases p5:p=5
 ·have q5:decide (p=5)=true:=BY p5;simp only[aA,Tryz.f183,KP,↓reduceIte,reduceEqDiff,reduceLT,reduceCtorEq,q5];rw[p5];exact rfl
 have q5:decide (p=5)=false:=AS p5;by_cases p6:p=6
 ·have q6:decide (p=6)=true:=BY p6;simp only[aA,Tryz.f183,KP,↓reduceIte,reduceEqDiff,reduceLT,reduceCtorEq,q5,q6];rw[p6];exact rfl
 have q6:decide (p=6)=false:=AS p6;by_cases p7:p=7
 ·have q7:decide (p=7)=true:=BY p7;simp only[aA,Tryz.f183,KP,↓reduceIte,reduceEqDiff,reduceLT,reduceCtorEq,q5,q6,q7];rw[p7];exact rfl
 have q7:decide (p=7)=false:=AS p7;by_cases p8:p=8
 ·have q8:decide (p=8)=true:=BY p8;simp only[aA,Tryz.f183,KP,↓reduceIte,reduceEqDiff,reduceLT,reduceCtorEq,q5,q6,q7,q8];rw[p8];exact rfl
 have q8:decide (p=8)=false:=AS p8;have e:counts p=(1,1,0):=by unfold counts;rw[an p5,an p6,an p7,an p8]
 rw[e];simp only[aA,Tryz.f183,KP,↓reduceIte,reduceEqDiff,reduceLT,reduceCtorEq,q5,q6,q7,q8];exact rfl
theorem Qe (h:bE E) {p:Int}:KC E 183 [.int .i64 p] Z (.fM [.int .i64 ((counts p).1:Nat),.int .i64 ((counts p).2.1:Nat),.int .i64 ((counts p).2.2:Nat)]) Z:=dD λ_=>QX h
theorem NZ (h:bE E) {s:bC}:aB E 184 [.str s] Z K=K (.bool (decide (100<s.length))) Z:=by
 refine aB.of ?_;rw[aI h.aax h.X7 h.abo h.ZC (args':=[.str s]) (by simp only[aX,dK]),aW (by kernel_rfl)];simp only[aA,Tryz.f184,KP,↓reduceIte,reduceLT,reduceCtorEq,fT h];rw[show decide ((100:Int)<(s.length:Int))=decide (100<s.length) from by rw[nj];omega];exact rfl
theorem Ic {x:AxS.Step}:cM x=true ↔ ((1<=x.op/\x.op<=9)/\((counts x.op).1<=x.args.length/\x.args.length<=(counts x.op).2.1))/\x.lits.length=(counts x.op).2.2/\(x.lits.any λl=>decide (100<l.length))=false/\(x.op=8->x.lits.head?≠some [])/\(0<=x.n/\x.n<=2000)/\(x.op=9\/x.n=0):=by
 have e:x.lits.all (λl=>decide (l.length<=100)) = !(x.lits.any λl=>decide (100<l.length)):=by
  rw[List.not_any_eq_all_not];congr 1;funext l;rw[<- decide_not,nj];omega
 unfold cM;rw[e];simp only[ai,aa,and_assoc,gw]
theorem rM {x:AxS.Step}(h:¬ (cM x=true)):cM x=false:=by simpa using h
theorem NV (h:bE E) {v:V}{x:AxS.Step}(hv:Ob v x)(hsm:x.lits.length<=4294967296):aB E 150 [v] Z K=K (.bool (cM x)) Z:=by
 refine aB.of ?_;have ev:=hv.snap (E:=E) Z;obtain⟨a,b,rfl,ia,ib⟩:=hv;have hoka:a.aY=true:=aP ia.bD;have hokb:b.aY=true:=aP ib.bD;rw[aI h.aaH h.Yg h.aby h.ZL (args':=[.agg [.str x.out,.int .i64 x.op,a,b,.int .i64 x.n]]) (by simp only[aX,ev]),aW (by kernel_rfl)];have la:=bP h ia;have lb:=bP h ib;have hm:=Ic (x:=x);have kc:=λ(Y:Sg)=>Qe (Z:=Y) h (p:=x.op)
 have kl:=λ(Y:Sg)=>L6 (Z:=Y) (k:=184) (caps:=[]) (P:=λl=>decide (100<l.length)) h (ib.ls Y 9) hsm (λ_ h=>by cases h) (λy v hy hv=>by
  subst hv;show aB E 184 [.str y] [] _;rw[NZ h];exact⟨rfl,rfl⟩)
 have h8:x.op=8->(counts x.op).2.2=2:=λe=>by rw[e];rfl
 generalize (counts x.op).1=A at *;generalize (counts x.op).2.1=B at *;generalize (counts x.op).2.2=C at *;by_cases p1:1<=x.op
 case neg=>
  have q1:decide (x.op<1)=true:=BY (by omega);rw[rM (mt hm.1 λhh=>by omega)];simp only[aA,Tryz.f150,KP,Ax.loadAt,↓reduceIte,reduceEqDiff,reduceLT,reduceAdd,reduceCtorEq,h.mB,h.dB,kc,hoka,hokb,q1];exact rfl
 have q1:decide (x.op<1)=false:=AS (by omega);by_cases p2:x.op<=9
 case neg=>
  have q2:decide ((9:Int)<x.op)=true:=BY (by omega);rw[rM (mt hm.1 λhh=>by omega)];simp only[aA,Tryz.f150,KP,Ax.loadAt,↓reduceIte,reduceEqDiff,reduceLT,reduceAdd,reduceCtorEq,h.mB,h.dB,kc,hoka,hokb,q1,q2];exact rfl
 have q2:decide ((9:Int)<x.op)=false:=AS (by omega);by_cases p3:A<=x.args.length
 case neg=>
  have q3:decide ((x.args.length:Int)<(A:Int))=true:=BY (by omega);rw[rM (mt hm.1 λhh=>by omega)];simp only[aA,Tryz.f150,KP,Ax.loadAt,↓reduceIte,reduceEqDiff,reduceLT,reduceAdd,reduceCtorEq,h.mB,h.a_,h.dB,kc,la,hoka,hokb,q1,q2,q3];exact rfl
 have q3:decide ((x.args.length:Int)<(A:Int))=false:=AS (by omega);by_cases p4:x.args.length<=B
 case neg=>
  have q4:decide ((B:Int)<(x.args.length:Int))=true:=BY (by omega);rw[rM (mt hm.1 λhh=>by omega)];simp only[aA,Tryz.f150,KP,Ax.loadAt,↓reduceIte,reduceEqDiff,reduceLT,reduceAdd,reduceCtorEq,h.mB,h.a_,h.dB,kc,la,hoka,hokb,q1,q2,q3,q4];exact rfl
 have q4:decide ((B:Int)<(x.args.length:Int))=false:=AS (by omega);by_cases p5:x.lits.length=C
 case neg=>
  have q5:decide ((x.lits.length:Int)=(C:Int))=false:=AS (by omega);rw[rM (mt hm.1 λhh=>by omega)];simp only[aA,Tryz.f150,KP,Ax.loadAt,↓reduceIte,reduceEqDiff,reduceLT,reduceAdd,reduceCtorEq,h.mB,h.a_,h.dB,kc,la,lb,hoka,hokb,q1,q2,q3,q4,q5];exact rfl
 have q5:decide ((x.lits.length:Int)=(C:Int))=true:=BY (by omega);by_cases p6:(x.lits.any λl=>decide (100<l.length))=true
 ·rw[rM (mt hm.1 λhh=>by rw[p6]at hh;simp at hh)];simp only[aA,Tryz.f150,KP,Ax.loadAt,↓reduceIte,reduceEqDiff,reduceLT,reduceAdd,reduceCtorEq,h.mB,h.a_,h.dB,kc,kl,la,lb,hoka,hokb,q1,q2,q3,q4,q5,p6];exact rfl
 have q6:(x.lits.any λl=>decide (100<l.length))=false:=by simpa using p6
 by_cases p8:x.op=8
 ·have q8:decide (x.op=8)=true:=BY p8;have hC:=h8 p8;obtain⟨y,r,hyr⟩:=nu (show x.lits≠[] from λe=>by rw[e]at p5;simp at p5;omega);obtain⟨g,e1⟩:=gP h ib (i:=0) (x:=y) (by rw[hyr];rfl);have e1:indexAddr E 24 b (.int .i64 0)=some (.cZ g [.str y]):=e1;by_cases hy:y=[]
  ·have e2:=iM hy;rw[rM (mt hm.1 λhh=>hh.2.2.2.1 p8 (by rw[hyr,hy];rfl))];simp only[aA,Tryz.f150,KP,Ax.loadAt,↓reduceIte,reduceEqDiff,reduceLT,reduceAdd,reduceCtorEq,h.mB,h.dG,h.a_,h.dB,lP,kc,kl,la,lb,hoka,hokb,q1,q2,q3,q4,q5,q6,q8,e1,e2];exact rfl
  have e2:=gL hy;have hh8:x.op=8->x.lits.head?≠some []:=λ_=>by rw[hyr];simpa using hy
  by_cases p9:0<=x.n
  case neg=>
   have q9:decide (x.n<0)=true:=BY (by omega);rw[rM (mt hm.1 λhh=>by omega)];simp only[aA,Tryz.f150,KP,Ax.loadAt,↓reduceIte,reduceEqDiff,reduceLT,reduceAdd,reduceCtorEq,h.mB,h.dG,h.a_,h.dB,lP,kc,kl,la,lb,hoka,hokb,q1,q2,q3,q4,q5,q6,q8,e1,e2,q9];exact rfl
  have q9:decide (x.n<0)=false:=AS (by omega);by_cases p10:x.n<=2000
  case neg=>
   have G4:decide ((2000:Int)<x.n)=true:=BY (by omega);rw[rM (mt hm.1 λhh=>by omega)];simp only[aA,Tryz.f150,KP,Ax.loadAt,↓reduceIte,reduceEqDiff,reduceLT,reduceAdd,reduceCtorEq,h.mB,h.dG,h.a_,h.dB,lP,kc,kl,la,lb,hoka,hokb,q1,q2,q3,q4,q5,q6,q8,e1,e2,q9,G4];exact rfl
  have G4:decide ((2000:Int)<x.n)=false:=AS (by omega);by_cases p11:x.op=9
  ·have Jm:decide (x.op=9)=true:=BY p11;rw[hm.2 ⟨⟨⟨p1,p2⟩,p3,p4⟩,p5,q6,hh8,⟨p9,p10⟩,.inl p11⟩];simp only[aA,Tryz.f150,KP,Ax.loadAt,↓reduceIte,reduceEqDiff,reduceLT,reduceAdd,reduceCtorEq,h.mB,h.dG,h.a_,h.dB,lP,kc,kl,la,lb,hoka,hokb,q1,q2,q3,q4,q5,q6,q8,e1,e2,q9,G4,Jm];exact rfl
  have Jm:decide (x.op=9)=false:=AS p11;by_cases p12:x.n=0
  case neg=>
   have LB:decide (x.n=0)=false:=AS (by omega);rw[rM (mt hm.1 λhh=>by omega)];simp only[aA,Tryz.f150,KP,Ax.loadAt,↓reduceIte,reduceEqDiff,reduceLT,reduceAdd,reduceCtorEq,h.mB,h.dG,h.a_,h.dB,lP,kc,kl,la,lb,hoka,hokb,q1,q2,q3,q4,q5,q6,q8,e1,e2,q9,G4,Jm,LB];exact rfl
  have LB:decide (x.n=0)=true:=BY (by omega);rw[hm.2 ⟨⟨⟨p1,p2⟩,p3,p4⟩,p5,q6,hh8,⟨p9,p10⟩,.inr p12⟩];simp only[aA,Tryz.f150,KP,Ax.loadAt,↓reduceIte,reduceEqDiff,reduceLT,reduceAdd,reduceCtorEq,h.mB,h.dG,h.a_,h.dB,lP,kc,kl,la,lb,hoka,hokb,q1,q2,q3,q4,q5,q6,q8,e1,e2,q9,G4,Jm,LB];exact rfl
 ·have q8:decide (x.op=8)=false:=AS p8;have hh8:x.op=8->x.lits.head?≠some []:=λe=>absurd e p8;by_cases p9:0<=x.n
  case neg=>
   have q9:decide (x.n<0)=true:=BY (by omega);rw[rM (mt hm.1 λhh=>by omega)];simp only[aA,Tryz.f150,KP,Ax.loadAt,↓reduceIte,reduceEqDiff,reduceLT,reduceAdd,reduceCtorEq,h.mB,h.a_,h.dB,kc,kl,la,lb,hoka,hokb,q1,q2,q3,q4,q5,q6,q8,q9];exact rfl
  have q9:decide (x.n<0)=false:=AS (by omega);by_cases p10:x.n<=2000
  case neg=>
   have G4:decide ((2000:Int)<x.n)=true:=BY (by omega);rw[rM (mt hm.1 λhh=>by omega)];simp only[aA,Tryz.f150,KP,Ax.loadAt,↓reduceIte,reduceEqDiff,reduceLT,reduceAdd,reduceCtorEq,h.mB,h.a_,h.dB,kc,kl,la,lb,hoka,hokb,q1,q2,q3,q4,q5,q6,q8,q9,G4];exact rfl
  have G4:decide ((2000:Int)<x.n)=false:=AS (by omega);by_cases p11:x.op=9
  ·have Jm:decide (x.op=9)=true:=BY p11;rw[hm.2 ⟨⟨⟨p1,p2⟩,p3,p4⟩,p5,q6,hh8,⟨p9,p10⟩,.inl p11⟩];simp only[aA,Tryz.f150,KP,Ax.loadAt,↓reduceIte,reduceEqDiff,reduceLT,reduceAdd,reduceCtorEq,h.mB,h.a_,h.dB,kc,kl,la,lb,hoka,hokb,q1,q2,q3,q4,q5,q6,q8,q9,G4,Jm];exact rfl
  have Jm:decide (x.op=9)=false:=AS p11;by_cases p12:x.n=0
  case neg=>
   have LB:decide (x.n=0)=false:=AS (by omega);rw[rM (mt hm.1 λhh=>by omega)];simp only[aA,Tryz.f150,KP,Ax.loadAt,↓reduceIte,reduceEqDiff,reduceLT,reduceAdd,reduceCtorEq,h.mB,h.a_,h.dB,kc,kl,la,lb,hoka,hokb,q1,q2,q3,q4,q5,q6,q8,q9,G4,Jm,LB];exact rfl
  have LB:decide (x.n=0)=true:=BY (by omega);rw[hm.2 ⟨⟨⟨p1,p2⟩,p3,p4⟩,p5,q6,hh8,⟨p9,p10⟩,.inr p12⟩];simp only[aA,Tryz.f150,KP,Ax.loadAt,↓reduceIte,reduceEqDiff,reduceLT,reduceAdd,reduceCtorEq,h.mB,h.a_,h.dB,kc,kl,la,lb,hoka,hokb,q1,q2,q3,q4,q5,q6,q8,q9,G4,Jm,LB];exact rfl
theorem Nk (h:bE E) {v:V}{x:AxS.Step}(hv:Ob v x)(hsm:x.lits.length<=4294967296):KC E 150 [v] Z (.bool (cM x)) Z:=dD λ_=>NV h hv hsm
end
end
section
section
variable {E:Env}{Z:Sg}{K:V->Sg->Prop}
theorem FF (h:bE E) {s:bC}:aB E 212 [.str s] Z K=K (.bool (!bI s)) Z:=by
 refine aB.of ?_;rw[aI h.aas h.X1 h.abk h.Zy (args':=[.str s]) (by simp only[aX,dK]),aW (by kernel_rfl)];have kc:=λ(Y:Sg)=>aac (Z:=Y) h (s:=s);simp only[aA,Tryz.f212,KP,↓reduceIte,reduceLT,reduceCtorEq,kc];exact rfl
theorem Fh (h:bE E) {s:bC}:KC E 212 [.str s] Z (.bool (!bI s)) Z:=dD λ_=>FF h
theorem Ca (h:bE E) {a:V}{l:List bC}(ha:LS aO 9 Z a l)(hsm:l.length<=4294967296):KC E 82 [a,.fn 212 [] []] Z (.bool (!(l.all bI))) Z:=dD λ_=>by rw[l9];exact Mr (k:=212) (caps:=[]) (P:=λs=>!bI s) h ha hsm (λ_ h=>by cases h) (λy v hy hv=>by subst hv;show aB E 212 [.str y] [] _;rw[FF h];exact⟨rfl,rfl⟩)
def MM (s:AxS.Step):Bool:=bI s.out&&s.args.all bI&&cM s
theorem T4 (h:bE E) {v:V}{x:AxS.Step}(hv:Ob v x)(h1:x.args.length<=4294967296)(h2:x.lits.length<=4294967296):aB E 214 [v] Z K=K (.bool (!MM x)) Z:=by
 refine aB.of ?_;have ev:=hv.snap (E:=E) Z;obtain⟨a,b,rfl,ia,ib⟩:=hv;have hoka:a.aY=true:=aP ia.bD;have hokb:b.aY=true:=aP ib.bD;rw[aI h.aaq h.XZ h.abh h.Zw (args':=[.agg [.str x.out,.int .i64 x.op,a,b,.int .i64 x.n]]) (by simp only[aX,ev]),aW (by kernel_rfl)];have k1:=λ(Y:Sg)=>Fh (Z:=Y) h (s:=x.out);have k2:=λ(Y:Sg)=>Ca (Z:=Y) h (ia.ls Y 9) h1;have k3:=λ(Y:Sg)=>Nk (Z:=Y) h (v:=.agg [.str x.out,.int .i64 x.op,a,b,.int .i64 x.n]) ⟨a,b,rfl,ia,ib⟩ h2;unfold MM;cases e1:bI x.out with
 |false=>
  simp only[aA,Tryz.f214,KP,Ax.loadAt,↓reduceIte,reduceEqDiff,reduceLT,reduceAdd,reduceCtorEq,h.dG,h.dB,hoka,hokb,k1,e1];exact rfl
 |true=>
  cases e2:x.args.all bI with
  |false=>
   simp only[aA,Tryz.f214,KP,Ax.loadAt,↓reduceIte,reduceEqDiff,reduceLT,reduceAdd,reduceCtorEq,h.dG,h.a_,h.dB,hoka,hokb,k1,k2,e1,e2];exact rfl
  |true=>
   simp only[aA,Tryz.f214,KP,Ax.loadAt,↓reduceIte,reduceEqDiff,reduceLT,reduceAdd,reduceCtorEq,h.dG,h.a_,h.dB,hoka,hokb,k1,k2,k3,e1,e2];exact rfl
theorem Fp (r:aD):kX r=(bI r.name&&decide (r.outs≠[])&&r.ins.all bI&&r.outs.all bI&&r.after.all bI&&r.steps.all MM):=rfl
theorem T3 (h:bE E) {v:V}{x:aD}(hv:Jd v x)(hs:Small x):aB E 181 [v] Z K=K (.bool (kX x)) Z:=by
 refine aB.of ?_;have ev:=hv.snap (E:=E) Z;obtain⟨a,b,c,d,rfl,ia,ib,ic,id⟩:=hv;have o1:=aP ia.bD;have o2:=aP ib.bD;have o3:=aP ic.bD;have o4:=aP id.bD;have l1:=hs.ins;have l2:=hs.outs;have l3:=hs.after;have l4:=hs.steps;rw[aI h.aaA h.X_ h.abr h.ZF (args':=[.agg [.str x.name,a,b,c,d]]) (by simp only[aX,ev]),aW (by kernel_rfl)];have lb:=bP h ib;have kn:=λ(Y:Sg)=>Fh (Z:=Y) h (s:=x.name);have k1:=λ(Y:Sg)=>Ca (Z:=Y) h (ia.ls Y 9) (by omega);have k2:=λ(Y:Sg)=>Ca (Z:=Y) h (ib.ls Y 9) (by omega);have k3:=λ(Y:Sg)=>Ca (Z:=Y) h (ic.ls Y 9) (by omega)
 have k4:=λ(Y:Sg)=>Nt (Z:=Y) (k:=214) (caps:=[]) (P:=λs=>!MM s) h (id.ls Y 82) (by omega) (λ_ h=>by cases h) (λy v hy hv=>by
  have hy1:=hs.args y hy;have hy2:=hs.lits y hy;show aB E 214 [v] [] _;rw[T4 h hv (by omega) (by omega)];exact⟨rfl,rfl⟩)
 rw[Fp];cases e0:bI x.name with
 |false=>
  simp only[aA,Tryz.f181,KP,Ax.loadAt,↓reduceIte,reduceEqDiff,reduceLT,reduceAdd,reduceCtorEq,h.dG,h.bM,o1,o2,o3,o4,kn,e0];exact rfl
 |true=>
 by_cases h0:x.outs=[]
 ·have q0:decide ((x.outs.length:Int)=0)=true:=BY (by rw[h0];rfl);simp only[aA,Tryz.f181,KP,Ax.loadAt,↓reduceIte,reduceEqDiff,reduceLT,reduceAdd,reduceCtorEq,h.dG,h.a_,h.bM,o1,o2,o3,o4,kn,e0,lb,q0];rw[h0];exact rfl
 have q0:decide ((x.outs.length:Int)=0)=false:=AS (by have:=iy.2 h0;omega);rw[show decide (x.outs≠[])=true from BY h0]
 have hf:Ax.fill (λj=>some (j*1,1)) (gX 3 [V.aF]) [(0,a),(1,b),(2,c)]=some [a,b,c]:=by
  rcases ia with⟨rfl,-⟩ | ⟨_,_,_,rfl,-⟩ <;> rcases ib with⟨rfl,-⟩ | ⟨_,_,_,rfl,-⟩ <;> rcases ic with⟨rfl,-⟩ | ⟨_,_,_,rfl,-⟩ <;> rfl
 have lz:∀Z,lenOf E Z 40 (.sl 1 0 3 none)=some 3:=λZ=>by unfold lenOf;rw[h.Ow]
 have i0:indexAddr E 40 (.sl 1 0 3 none) (.int .i64 0)=some (.ref 1 0):=by unfold Ax.indexAddr;simp only[h.Ow,h.a_];rfl
 have i1:indexAddr E 40 (.sl 1 0 3 none) (.int .i64 1)=some (.ref 1 1):=by unfold Ax.indexAddr;simp only[h.Ow,h.a_];rfl
 have i2:indexAddr E 40 (.sl 1 0 3 none) (.int .i64 2)=some (.ref 1 2):=by unfold Ax.indexAddr;simp only[h.Ow,h.a_];rfl
 have d0:decide ((0:Int)<((3:Nat):Int))=true:=rfl;have d1:decide ((1:Int)<((3:Nat):Int))=true:=rfl;have d2:decide ((2:Int)<((3:Nat):Int))=true:=rfl;have d3:decide ((3:Int)<((3:Nat):Int))=false:=rfl;have w1:wr .i64 1=1:=rfl;have w2:wr .i64 2=2:=rfl;have w3:wr .i64 3=3:=rfl;simp only[aA,Tryz.f181,KP,Ax.loadAt,↓reduceIte,reduceEqDiff,reduceLT,reduceLeDiff,reduceAdd,reduceMul,reduceCtorEq,h.dG,h.a_,h.Ow,h.bM,o1,o2,o3,o4,kn,e0,lb,q0,hf,lz];rw[aG];cases e1:x.ins.all bI with
 |false=>
  simp only[KP,Ax.loadAt,↓reduceIte,reduceEqDiff,reduceLT,h.a_,k1,e1,i0,d0];exact rfl
 |true=>
 simp only[KP,Ax.loadAt,↓reduceIte,reduceEqDiff,reduceLT,Int.reduceAdd,h.a_,k1,e1,w1,i0,d0];rw[aG];cases e2:x.outs.all bI with
 |false=>
  simp only[KP,Ax.loadAt,↓reduceIte,reduceEqDiff,reduceLT,h.a_,k2,e2,i1,d1];exact rfl
 |true=>
 simp only[KP,Ax.loadAt,↓reduceIte,reduceEqDiff,reduceLT,Int.reduceAdd,h.a_,k2,e2,w2,i1,d1];rw[aG];cases e3:x.after.all bI with
 |false=>
  simp only[KP,Ax.loadAt,↓reduceIte,reduceEqDiff,reduceLT,h.a_,k3,e3,i2,d2];exact rfl
 |true=>
 simp only[KP,Ax.loadAt,↓reduceIte,reduceEqDiff,reduceLT,Int.reduceAdd,h.a_,k3,e3,w3,i2,d2];rw[aG];have e4:x.steps.all MM = !(x.steps.any λs=>!MM s):=by rw[<- l9,Bool.not_not]
 rw[e4];simp only[KP,Ax.loadAt,↓reduceIte,reduceEqDiff,reduceLT,reduceCtorEq,h.fS,h.bM,k4,d3];exact rfl
theorem S5 (h:bE E) {v:V}{x:aD}(hv:Jd v x)(hs:Small x):KC E 181 [v] Z (.bool (kX x)) Z:=dD λ_=>T3 h hv hs
end
end
section
section
variable {E:Env}{Z:Sg}{K:V->Sg->Prop}
theorem QL (h:bE E) {a:V}{l:List bC}(ha:LS aO 9 Z a l)(hsm:l.length<=4294967296):aB E 215 [a] Z K=K (.bool (k_ l)) Z:=by
 refine aB.of ?_;obtain⟨a',ea,ia⟩:=kK h ha;rw[aI h.aap h.XY h.abg h.Zv (args':=[a']) (by simp only[aX,ea]),aW (by kernel_rfl)];have la:=bP h ia;simp only[aA,Tryz.f215,KP,↓reduceIte,reduceLT,reduceCtorEq,la];refine aV (λi F Y=>Y=[]/\F.get 0=a'/\F.get 5=a'/\F.get 6=.int .i64 (l.length:Int)/\F.get 7=.int .i64 (i:Int)/\∀(j:Nat) (y:bC),j<i->l[j]?=some y->y ∉ l.take j) l.length ?_ ?_ l.length 0 _ _ (by omega) ⟨rfl,(fK (by simp +decide only[GS,aj]) (λj y hj=>by omega))⟩
 ·rintro i F Y hi ⟨rfl,g0,g5,g6,g7,hp⟩ next
  obtain⟨x,hx⟩:∃x,l[i]?=some x:=⟨_,AT hi⟩;obtain⟨g,e1⟩:=gP h ia hx;obtain⟨w,hw,iw⟩:=xL h ia (b:=i) (by omega);have hlt:=dP hi;have hadd:=bW i (by omega);have kc:=λ(Y:Sg)=>Dn (Z:=Y) h (s:=x) (iw.ls Y 9) (by rw[bw];omega);rw[aG];by_cases hm:x∈l.take i
  ·have hs:=BY hm;simp only[KP,Ax.loadAt,↓reduceIte,reduceEqDiff,reduceLT,reduceCtorEq,h.dG,g0,g5,g6,g7,hlt,e1,hw,kc,hs];rw[Cs hx hm];exact rfl
  ·have hs:=AS hm;simp only[KP,Ax.loadAt,↓reduceIte,reduceEqDiff,reduceLT,reduceCtorEq,h.dG,g0,g5,g6,g7,hlt,e1,hw,kc,hs,hadd];refine next _ _ ⟨rfl,(fK (by simp +decide only[GS,g0,g5,g6,aj]) (λj y hj hy=>?_))⟩
   rcases cj j i with g | g
   ·exact hp j y g hy
   ·obtain rfl:j=i:=by omega
    rw[hx]at hy;cases hy;exact hm
 ·rintro F Y ⟨rfl,g0,g5,g6,g7,hp⟩;have hlt:=dZ (bl l.length);rw[aG];simp only[KP,↓reduceIte,reduceLT,g6,g7,hlt];rw[Ao λj y hy=>hp j y (AI.1 hy).1 hy];exact rfl
theorem Dm (h:bE E) {a:V}{l:List bC}(ha:LS aO 9 Z a l)(hsm:l.length<=4294967296):KC E 215 [a] Z (.bool (k_ l)) Z:=dD λ_=>QL h ha hsm
theorem DK (h:bE E):mP E 24 true .aF .aF=some true:=by unfold mP;rw[h.a_]
theorem DJ (h:bE E) {g:Bool}{rs:List (List V)}{f:Bool}:mP E 24 true (.bS g rs f) .aF=some false:=by unfold mP;rw[h.a_]
theorem tT (h:bE E) {a:V}{l:List bC} (ia:IS aO a l)(hl:l.length<=1000):aB E 91 [a] Z λv σ'=>bB aO 9 σ' v l/\Kp Z σ'/\∀b,aQ v=some b->Z.length<=b:=by
 rw[cN h.hs91 h.sp91 h.fn91 h.md91,aW (by kernel_rfl)];rcases ia with⟨rfl,rfl⟩ | ⟨g,rs,full,rfl,ha⟩
 ·simp only[aA,Tryz.f91,KP,↓reduceIte,reduceLT,reduceCtorEq,DK h];exact⟨.inl ⟨rfl,rfl⟩,λ_ _ h=>h,λb hb=>by cases hb⟩
 ·obtain⟨rs',e,ha'⟩:=rV (L:=aO) (x:=.bS g rs full) (l:=l) (.inr ⟨g,rs,full,rfl,ha⟩) (Z++[O.cells 9 [] true]);obtain⟨w',τ',h1,h2,h3,h4,h5⟩:=kP (ats:=#[24,24]) (Z:=Z++[O.cells 9 [] true]) (w:=.sl Z.length 0 0 none) (l:=[]) (L:=aO) h.a_ rfl h.dG rfl (by decide) (jZ h) rfl (.inr ⟨Z.length,[],true,rfl,aL,.nil⟩) e ha' (dQ (b:=1000) (by decide) (by simp only[b9];omega));rw[cz]at h2;simp only[aA,Tryz.f91,KP,↓reduceIte,reduceEqDiff,reduceLT,reduceLeDiff,reduceCtorEq,h.dG,h.a_,DJ h,h1,Ax.fill,gX,iz];refine⟨h2,λc o hc=>h3 _ _ (aJ hc) λe=>?_,λb hb=>?_⟩
  ·cases e;exact absurd (AI.1 hc).1 (bl _)
  ·rcases h5 b hb with g | g
   ·cases g;exact OF _
   ·simp only[By,af,b9]at g;omega
theorem HC {Z:Sg}{ty:Nat->Option Ty}{g:Bool}{b n t m:Nat}{cs:List V}{ex:Bool}{i:Ty}(hb:Z[b]?=some (.cells t cs ex))(hty:ty t=some i)(hlen:n*i.size<=cs.length)
  (hi:∀c∈cs.take (n*i.size),Ax.bD c=true/\cL g c=true):∃full,bG Z ty g (m+2) (.sl b 0 n none)=some (.bS g (rows i.size n (cs.take (n*i.size))) full):=by
 have hm:aX (λv=>match bG Z ty g (m+1) v with
   |some v=>if cL g v then some v else Ax.no "snap: borrowed"
   |none=>none) ((cs.drop 0).take (n*i.size))=some (cs.take (n*i.size)):=by
  rw[fc];refine f_ λx hx=>?_;rw[jK (hi x hx).1];simp only[(hi x hx).2,bf]
 refine⟨ex&&decide (0<i.size)&&(0+n*i.size==cs.length),?_⟩;rw[bG];simp only[hb,hty];rw[az (by omega)]
 exact au (λo=>match o with
  |some l=>some (V.bS g (rows i.size n l) (ex&&decide (0<i.size)&&(0+n*i.size==cs.length)))
  |none=>none) hm
theorem MP (h:bE E) {Z:Sg}{w:V}{l:List bC}{m:Nat} (ow:bB aO 9 Z w l):∃w',bG Z E.ty true (m+2) w=some w'/\IS aO w' l:=by
 rcases ow with⟨rfl,rfl⟩ | ⟨b,rs,ex,rfl,hb,ha⟩
 ·exact⟨.aF,rfl,.inl ⟨rfl,rfl⟩⟩
 ·have hfl:=Lay.flat ha;have hfl:rs.flatten.length=l.length*1:=hfl;have htk:rs.flatten.take (l.length*1)=rs.flatten:=ak (by omega)
  obtain⟨full,e⟩:=HC (g:=true) (n:=l.length) (m:=m) hb h.dG (show l.length*1<=_ by omega) (λc hcm=>by
   rw[show rs.flatten.take (l.length*1)=rs.flatten from htk]at hcm;obtain⟨r,hr,hcr⟩:=List.mem_flatten.1 hcm;obtain⟨x,-,hp⟩:=ha.mem hr;have:=aO.im r x hp c hcr;exact⟨this,bV this⟩)
  refine⟨_,e,.inr ⟨true,rs,full,?_,ha⟩⟩;show V.bS true (rows 1 l.length (rs.flatten.take (l.length*1))) full=_;rw[htk,<- ha.len];exact au (λz=>V.bS true z full) (mE (sz:=1) rs (Lay.lens ha))
theorem xK {Z:Sg}{f k t:Nat}{cs cs':List V}{ex:Bool}(hb:Z[k]?=some (.cells t cs ex))(hm:aX (λv=>match bG Z E.ty true 11 v with
   |some v=>if cL true v then some v else Ax.no "snap: borrowed"
   |none=>none) cs=some cs'):aU Z E.ty true (.fn f [] [.ref k 0])=some (.fn f [] [.cZ true cs']):=by
 have e:bG Z E.ty true 12 (.ref k 0)=some (.cZ true cs'):=by
  rw[bG];simp only[hb,fc]
  exact au (λo=>match o with
   |some l=>some (V.cZ true l)
   |none=>none) hm
 have e1:aU.one Z E.ty true (.ref k 0)=some (.cZ true cs'):=by
  unfold aU.one;rw[show dL=12 from rfl,e];rfl
 simp only[aU,aX,e1]
theorem CH (h:bE E) {Z:Sg}{w:V}{l:List bC}{f k t:Nat}{ex:Bool}(hb:Z[k]?=some (.cells t [w] ex)) (ow:bB aO 9 Z w l):∃w',aU Z E.ty true (.fn f [] [.ref k 0])=some (.fn f [] [.cZ true [w']])/\IS aO w' l:=by
 obtain⟨w',e,iw⟩:=MP (m:=9) h ow;refine⟨w',xK hb ?_,iw⟩;simp only[aX,e,bV iw.bD,bf]
theorem JM {Z:Sg}{f k t:Nat}{cs:List V}{ex:Bool}(hb:Z[k]?=some (.cells t cs ex))(hc:∀c∈cs,Ax.bD c=true):aU Z E.ty true (.fn f [] [.ref k 0])=some (.fn f [] [.cZ true cs]):=
 xK hb (f_ λx hx=>by rw[show 11=10+1 from rfl,jK (hc x hx)];simp only[bV (hc x hx),bf])
theorem I4 (h:bE E) {w:V}{l:List bC}{y:bC}{g:Bool} (iw:IS aO w l)(hsm:l.length<=4294967296):aB E 216 [.str y,.cZ g [w]] [] K=K (.bool (!decide (y∈l))) []:=by
 refine aB.of ?_;have hi:Ax.bD (.cZ g [w])=true:=rfl;have ew:=cJ (Z:=[]) (ty:=E.ty) hi (bV hi);rw[aI h.aao h.XX h.abf h.Zu (args':=[.str y,.cZ g [w]]) (by simp only[aX,dK,ew]),aW (by kernel_rfl)];have kc:=λ(Y:Sg)=>Dn (Z:=Y) h (s:=y) (iw.ls Y 9) hsm;simp only[aA,Tryz.f216,KP,Ax.loadAt,↓reduceIte,reduceEqDiff,reduceLT,reduceAdd,reduceCtorEq,h.a_,kc];exact rfl
theorem QU (h:bE E) {a b c d:V}{l:List bC}{n y:bC}{g:Bool} (ia:IS aO a l)(hb:Ax.bD b=true)(hc:Ax.bD c=true)(hd:Ax.bD d=true)(hsm:l.length<=4294967296):aB E 217 [.str y,.cZ g [.str n,a,b,c,d]] [] K=K (.bool (decide (y∈l))) []:=by
 refine aB.of ?_;have hi:Ax.bD (.cZ g [.str n,a,b,c,d])=true:=rfl;have ew:=cJ (Z:=[]) (ty:=E.ty) hi (bV hi);rw[aI h.aan h.XW h.abe h.Zt (args':=[.str y,.cZ g [.str n,a,b,c,d]]) (by simp only[aX,dK,ew]),aW (by kernel_rfl)];have kc:=λ(Y:Sg)=>Dn (Z:=Y) h (s:=y) (ia.ls Y 9) hsm;simp only[aA,Tryz.f217,KP,Ax.loadAt,↓reduceIte,reduceEqDiff,reduceLT,reduceAdd,reduceCtorEq,h.a_,h.bM,kc];exact rfl
end
end
section
section
variable {E:Env}{Z:Sg}{K:V->Sg->Prop}
theorem bB.set {Z:Sg}{w:V}{l:List bC}{k:Nat}{y:O} (ow:bB aO 9 Z w l)(hk:aQ w≠some k):bB aO 9 (Z.set k y) w l:=ow.keep λc o hc ho=>by
 rw[No (λe=>hk (by rw[e];exact hc))];exact ho
theorem PB (h:bE E) {x:aD}{a b c d:V} (ia:IS aO a x.ins) (ib:IS aO b x.outs) (id:IS eZ d x.steps)(hs:Small x) {kb:Nat}{Y:Sg}{w:V} (b0:Y[0]?=some (O.cells 46 [.str x.name,a,b,c,d] true)) (k0:Y[kb]?=some (.cells 24 [w] true)) (ow:bB aO 9 Y w x.ins) (F:FT) (g1:F.get 1=.ref 0 0) (g3:F.get 3=.ref kb 0) (g4:F.get 4=.fn 216 [] [.ref kb 0])
  (hk:∀σ',K (.bool (iJ x.ins x.steps&&x.outs.all λo=>decide (o∈x.ins++x.steps.map Step.out))) σ'):R E (cutAt [1,1,1,1,1] (aA Tryz.f182).code) [] ⟨63,F⟩ Y (nL E (aA Tryz.f182).results K):=by
 have l1:=hs.ins;have l2:=hs.outs;have l4:=hs.steps;have ld:=lT h id;simp only[aA,Tryz.f182,KP,Ax.loadAt,↓reduceIte,reduceLT,reduceCtorEq,h.fS,h.bM,cutAt,g1,b0,ld];refine aV (λi F Y=>F.get 1=.ref 0 0/\F.get 3=.ref kb 0/\F.get 4=.fn 216 [] [.ref kb 0]/\F.get 36=d/\F.get 37=.int .i64 (x.steps.length:Int)/\F.get 38=.int .i64 (i:Int)/\Y[0]?=some (O.cells 46 [.str x.name,a,b,c,d] true)/\∃w,Y[kb]?=some (.cells 24 [w] true)/\bB aO 9 Y w (x.ins++(x.steps.take i).map Step.out)/\iJ x.ins x.steps=iJ (x.ins++(x.steps.take i).map Step.out) (x.steps.drop i)) x.steps.length ?_ ?_ x.steps.length 0 _ _ (by omega) (Ab (by simp +decide only[GS,g1,g3,g4,aj]) ⟨b0,w,k0,by simpa using ow,by simp⟩)
 ·rintro i F Y hi ⟨g1,g3,g4,g36,g37,g38,b0,w,k0,ow,hst⟩ next
  obtain⟨s,hsi⟩:∃y,x.steps[i]?=some y:=⟨_,AT hi⟩;obtain⟨g,p1,p2,e1,i1,i2⟩:=wN h id hsi;have a8:=hs.args s (ag hsi);have o1:=aP i1.bD;have o2:=aP i2.bD;have hlt:=dP hi;have hadd:=bW i (by omega)
  have hdrop:x.steps.drop i=s::x.steps.drop (i+1):=by
   obtain⟨hj,rfl⟩:=AI.1 hsi;exact o9 hj
  have htake:x.ins++(x.steps.take (i+1)).map Step.out=x.ins++(x.steps.take i).map Step.out++[s.out]:=by
   rw[ek,hsi];simp
  have hkl:(x.ins++(x.steps.take i).map Step.out).length<=100:=by
   rw[By,bj,bw];omega
  rw[hdrop,iJ]at hst;rw[htake]at next
  generalize x.ins++(x.steps.take i).map Step.out=kn at *;rw[hst]at hk;have b1:=aJ (x:=O.cells 82 [.str s.out,.int .i64 s.op,p1,p2,.int .i64 s.n] true) b0;have k1:=aJ (x:=O.cells 82 [.str s.out,.int .i64 s.op,p1,p2,.int .i64 s.n] true) k0;have s1:(Y++[O.cells 82 [.str s.out,.int .i64 s.op,p1,p2,.int .i64 s.n] true])[Y.length]?=some (O.cells 82 [.str s.out,.int .i64 s.op,p1,p2,.int .i64 s.n] true):=aL;have ow1:=ow.app [O.cells 82 [.str s.out,.int .i64 s.op,p1,p2,.int .i64 s.n] true];rw[aG];simp only[KP,Ax.loadAt,Ax.storeAt,↓reduceIte,reduceEqDiff,reduceLT,reduceAdd,h.a_,h.dB,g3,g36,g37,g38,hlt,e1,o1,o2,aL,bR];generalize Y++[O.cells 82 [.str s.out,.int .i64 s.op,p1,p2,.int .i64 s.n] true]=τ1 at *;generalize Y.length=y at *;have kc:=Dn (Z:=τ1) h (s:=s.out) ow1.ls (by omega);obtain⟨w',es,iw⟩:=CH (f:=216) h k1 ow1
  have kf:=dD (λK=>rZ (Z:=τ1) (K:=K) (k:=216) (caps:=[.cZ true [w']]) (P:=λy=>!decide (y∈kn)) h (i1.ls τ1 9) (by omega) (λc hc=>by cases hc with | head=>rfl | tail _ hc=>cases hc) (λy v hy hv=>by
   subst hv;show aB E 216 [.str y,.cZ true [w']] [] _;rw[I4 h iw (by omega)];exact⟨rfl,rfl⟩) es)
  by_cases m1:s.out∈kn
  ·have q1:=BY m1;rw[q1]at hk;simp only[KP,Ax.loadAt,↓reduceIte,reduceEqDiff,reduceLT,reduceCtorEq,h.dG,h.dB,k1,s1,kc,q1];exact hk _
  have q1:=AS m1;cases m2:s.args.any λy=>!decide (y∈kn) with
  |true=>
   rw[show s.args.all (λa=>decide (a∈kn))=false from by rw[<- gw,l9,m2],Bool.and_false,nt,nt]at hk;simp only[KP,Ax.loadAt,↓reduceIte,reduceEqDiff,reduceLT,reduceCtorEq,h.dG,h.a_,h.dB,g4,k1,s1,kc,kf,q1,m2];exact hk _
  |false=>
  rw[q1,show s.args.all (λa=>decide (a∈kn))=true from by rw[<- Bool.not_eq_false',l9,m2],mj,jh,jh]at hst;have b2:=aJ (x:=O.cells 9 [.str s.out] true) b1;have k2:=aJ (x:=O.cells 9 [.str s.out] true) k1;obtain⟨w2,τ2,ha2,ow2,Us,-,fr2⟩:=kP (ats:=#[24,24]) (m:=[s.out]) (new:=[[.str s.out]]) h.a_ rfl h.dG rfl (by decide) (jZ h) rfl (ow1.app [.cells 9 [.str s.out] true]) (lW rfl) (.one rfl) (dQ (b:=1000) (by decide) (by simp only[af,b9];omega));have nk:=lM (w:=w) k2 (by decide) (ow1.app [.cells 9 [.str s.out] true]);have n0:=lM (w:=w) b2 (by decide) (ow1.app [.cells 9 [.str s.out] true]);have k3:=Us _ _ k2 nk;have b3:=Us _ _ b2 n0;have nk2:aQ w2≠some kb:=lM k3 (by decide) ow2;obtain⟨c1,c2⟩:=rK ow2
  have hkb:kb≠0:=λe=>by
   rw[e,b0]at k0;cases k0
  have hlen:=(AI.1 k3).1;simp only[KP,Ax.loadAt,Ax.storeAt,↓reduceIte,reduceEqDiff,reduceLT,reduceLeDiff,reduceMul,reduceCtorEq,h.dG,h.a_,h.dB,g3,g4,g38,k1,s1,kc,kf,q1,m2,lD,ha2,k3,c1,c2,hadd];refine next _ _ ⟨?_,?_,?_,?_,?_,?_,?_,w2,?_,?_,?_⟩
  ·exact (by simp +decide only[GS,g1])
  ·exact (by simp +decide only[GS,g3])
  ·exact (by simp +decide only[GS,g4])
  ·exact (by simp +decide only[GS,g36])
  ·exact (by simp +decide only[GS,g37])
  ·exact (by simp +decide only[GS])
  ·rw[No hkb];exact b3
  ·rw[bt hlen]
  ·exact bB.set ow2 nk2
  ·exact hst
 ·rintro F Y ⟨g1,g3,g4,g36,g37,g38,b0,w,k0,ow,hst⟩;rw[ak (OF _)]at ow hst;rw[show x.steps.drop x.steps.length=[] from List.drop_length,iJ]at hst
  have hkl:(x.ins++x.steps.map Step.out).length<=100:=by
   rw[By,bj];omega
  generalize x.ins++x.steps.map Step.out=kn at *;obtain⟨w',es,iw⟩:=CH (f:=216) h k0 ow
  have kf:=dD (λK=>rZ (Z:=Y) (K:=K) (k:=216) (caps:=[.cZ true [w']]) (P:=λy=>!decide (y∈kn)) h (ib.ls Y 9) (by omega) (λc hc=>by cases hc with | head=>rfl | tail _ hc=>cases hc) (λy v hy hv=>by
   subst hv;show aB E 216 [.str y,.cZ true [w']] [] _;rw[I4 h iw (by omega)];exact⟨rfl,rfl⟩) es)
  have hlt:=dZ (bl x.steps.length);rw[hst,jh]at hk;have e:(x.outs.all λo=>decide (o∈kn)) = !(x.outs.any λy=>!decide (y∈kn)):=by rw[<- l9,Bool.not_not]
  rw[e]at hk;rw[aG];simp only[KP,Ax.loadAt,↓reduceIte,reduceEqDiff,reduceLT,reduceCtorEq,h.a_,h.bM,g1,g4,g37,g38,hlt,b0,kf];exact hk _
theorem T1 (h:bE E) {v:V}{x:aD}(hv:Jd v x)(hs:Small x):aB E 182 [v] Z K=K (.bool (fH x)) Z:=by
 refine aB.of ?_;have ev:=hv.snap (E:=E) Z;obtain⟨a,b,c,d,rfl,ia,ib,ic,id⟩:=hv;have o1:=aP ia.bD;have o2:=aP ib.bD;have o3:=aP ic.bD;have o4:=aP id.bD;have l1:=hs.ins;have l2:=hs.outs;have l3:=hs.after;rw[aI h.aaz h.X9 h.abq h.ZE (args':=[.agg [.str x.name,a,b,c,d]]) (by simp only[aX,ev]),aW (by kernel_rfl)];have k1:=λ(Y:Sg)=>Dm (Z:=Y) h (ia.ls Y 9) (by omega);have k2:=λ(Y:Sg)=>Dm (Z:=Y) h (ib.ls Y 9) (by omega);have k3:=λ(Y:Sg)=>Dm (Z:=Y) h (ic.ls Y 9) (by omega);have kc:=λ(Y:Sg)=>Dn (Z:=Y) h (s:=x.name) (ic.ls Y 9) (by omega)
 have rest:=λ(hn:(iJ x.ins x.steps&&x.outs.all λo=>decide (o∈x.ins++x.steps.map Step.out))=fH x) kb Y w F b0 k0 ow g1 g3 g4=>PB (K:=λv σ1=>match cG σ1 E.ty false v with
   |some v=>v=.bool (fH x)
   |none=>False) (c:=c) h ia ib id hs (kb:=kb) (Y:=Y) (w:=w) b0 k0 ow F g1 g3 g4 λ_=>by rw[hn];exact rfl
 generalize hC:cutAt [1,1,1,1,1] (aA Tryz.f182).code=C at rest;cases e0:k_ x.ins with
 |true=>
  simp only[aA,Tryz.f182,KP,Ax.loadAt,↓reduceIte,reduceEqDiff,reduceLT,reduceAdd,reduceCtorEq,h.a_,h.bM,o1,o2,o3,o4,k1,e0];show V.bool false=V.bool (fH x);unfold fH;simp[e0]
 |false=>
 cases e1:k_ x.outs with
 |true=>
  simp only[aA,Tryz.f182,KP,Ax.loadAt,↓reduceIte,reduceEqDiff,reduceLT,reduceAdd,reduceCtorEq,h.a_,h.bM,o1,o2,o3,o4,k1,k2,e0,e1];show V.bool false=V.bool (fH x);unfold fH;simp[e0,e1]
 |false=>
 cases e2:k_ x.after with
 |true=>
  simp only[aA,Tryz.f182,KP,Ax.loadAt,↓reduceIte,reduceEqDiff,reduceLT,reduceAdd,reduceCtorEq,h.a_,h.bM,o1,o2,o3,o4,k1,k2,k3,e0,e1,e2];show V.bool false=V.bool (fH x);unfold fH;simp[e0,e1,e2]
 |false=>
 cases e3:decide (x.name∈x.after) with
 |true=>
  simp only[aA,Tryz.f182,KP,Ax.loadAt,↓reduceIte,reduceEqDiff,reduceLT,reduceAdd,reduceCtorEq,h.dG,h.a_,h.bM,o1,o2,o3,o4,k1,k2,k3,kc,e0,e1,e2,e3];show V.bool false=V.bool (fH x);unfold fH;rw[e0,e1,e2,e3];rfl
 |false=>
 rw[show (aA Tryz.f182).code=.seq (cutAt [0] (aA Tryz.f182).code) (.seq (cutAt [1,0] (aA Tryz.f182).code) (.seq (cutAt [1,1,0] (aA Tryz.f182).code) (.seq (cutAt [1,1,1,0] (aA Tryz.f182).code) (.seq (cutAt [1,1,1,1,0] (aA Tryz.f182).code) C)))) from by rw[<- hC];rfl];simp only[aA,Tryz.f182,KP,Ax.loadAt,↓reduceIte,reduceEqDiff,reduceLT,reduceAdd,reduceCtorEq,h.dG,h.a_,h.bM,cutAt,o1,o2,o3,o4,k1,k2,k3,kc,e0,e1,e2,e3];refine aN (tT h ia (by omega)) ?_;rintro w Y ⟨ow,kp,-⟩;have b0:Y[0]?=some (O.cells 46 [.str x.name,a,b,c,d] true):=kp 0 _ rfl;obtain⟨c1,c2⟩:=rK ow;have b1:=aJ (x:=O.cells 24 [w] true) b0;have kk:(Y++[O.cells 24 [w] true])[Y.length]?=some (O.cells 24 [w] true):=aL
 have es:=JM (E:=E) (f:=217) b1 (λy hy=>by
  simp only[IT,cr,fu]at hy;rcases hy with rfl | rfl | rfl | rfl | rfl
  ·rfl
  ·exact ia.bD
  ·exact ib.bD
  ·exact ic.bD
  ·exact id.bD)
 have kf:=dD (λK=>rZ (Z:=Y++[O.cells 24 [w] true]) (K:=K) (k:=217) (caps:=[.cZ true [.str x.name,a,b,c,d]]) (P:=λy=>decide (y∈x.ins)) h (ib.ls _ 9) (by omega) (λc hc=>by cases hc with | head=>rfl | tail _ hc=>cases hc) (λy v hy hv=>by
  subst hv;show aB E 217 [.str y,.cZ true [.str x.name,a,b,c,d]] [] _;rw[QU h ia ib.bD ic.bD id.bD (by omega)];exact⟨rfl,rfl⟩) es)
 have eo:(x.outs.all λo=>!decide (o∈x.ins)) = !(x.outs.any λy=>decide (y∈x.ins)):=by rw[List.not_any_eq_all_not]
 cases e4:x.outs.any λy=>decide (y∈x.ins) with
 |true=>
  simp only[KP,Ax.loadAt,Ax.storeAt,↓reduceIte,reduceEqDiff,reduceLT,reduceCtorEq,h.a_,h.bM,b1,kf,e4,c1,c2,aL,bR];show V.bool false=V.bool (fH x);unfold fH;rw[eo,e0,e1,e2,e3,e4];rfl
 |false=>
 simp only[KP,Ax.loadAt,Ax.storeAt,↓reduceIte,reduceEqDiff,reduceLT,reduceCtorEq,h.a_,h.bM,b1,kf,e4,c1,c2,aL,bR];refine rest ?_ Y.length _ w _ b1 kk (ow.app _) ?_ ?_ ?_
 ·unfold fH;rw[eo,e0,e1,e2,e3,e4];simp
 ·exact (by simp +decide only[GS])
 ·exact (by simp +decide only[GS])
 ·exact (by simp +decide only[GS])
theorem S1 (h:bE E) {v:V}{x:aD}(hv:Jd v x)(hs:Small x):KC E 182 [v] Z (.bool (fH x)) Z:=dD λ_=>T1 h hv hs
end
end
section
section
variable {E:Env}{Z:Sg}{K:V->Sg->Prop}
theorem T6 (h:bE E) {v:V}{x:aD}(hv:Jd v x)(hs:Small x):aB E 149 [v] Z K=K (.int .i64 (bA x)) Z:=by
 refine aB.of ?_;have ev:=hv.snap (E:=E) Z;obtain⟨a,b,c,d,rfl,ia,ib,ic,id⟩:=hv;have o1:=aP ia.bD;have o2:=aP ib.bD;have o3:=aP ic.bD;have o4:=aP id.bD;have la:=bP h ia;have lb:=bP h ib;have lc:=bP h ic;have ld:=lT h id;rw[aI h.aaI h.Yh h.abz h.ZM (args':=[.agg [.str x.name,a,b,c,d]]) (by simp only[aX,ev]),aW (by kernel_rfl)];have k1:=λ(Y:Sg)=>S5 (Z:=Y) h (v:=.agg [.str x.name,a,b,c,d]) ⟨a,b,c,d,rfl,ia,ib,ic,id⟩ hs;have k2:=λ(Y:Sg)=>S1 (Z:=Y) h (v:=.agg [.str x.name,a,b,c,d]) ⟨a,b,c,d,rfl,ia,ib,ic,id⟩ hs;cases e1:kX x with
 |false=>
  simp only[aA,Tryz.f149,KP,Ax.loadAt,↓reduceIte,reduceEqDiff,reduceLT,reduceAdd,h.bM,o1,o2,o3,o4,k1,e1];show V.int .i64 1=V.int .i64 (bA x);rw[show bA x=1 from by unfold bA;rw[az e1]]
 |true=>
 by_cases p0:8<x.ins.length
 ·have q0:decide ((8:Int)<(x.ins.length:Int))=true:=BY (by omega);simp only[aA,Tryz.f149,KP,Ax.loadAt,↓reduceIte,reduceEqDiff,reduceLT,reduceAdd,reduceCtorEq,h.a_,h.bM,o1,o2,o3,o4,la,k1,e1,q0];show V.int .i64 4=V.int .i64 (bA x);rw[show bA x=4 from by unfold bA;rw[an (by rw[e1];simp)];rw[az (by unfold long;rw[BY p0];simp)]]
 have q0:decide ((8:Int)<(x.ins.length:Int))=false:=AS (by omega);by_cases p1:4<x.outs.length
 ·have q1:decide ((4:Int)<(x.outs.length:Int))=true:=BY (by omega);simp only[aA,Tryz.f149,KP,Ax.loadAt,↓reduceIte,reduceEqDiff,reduceLT,reduceAdd,reduceCtorEq,h.a_,h.bM,o1,o2,o3,o4,la,lb,k1,e1,q0,q1];show V.int .i64 4=V.int .i64 (bA x);rw[show bA x=4 from by unfold bA;rw[an (by rw[e1];simp)];rw[az (by unfold long;rw[BY p1];simp)]]
 have q1:decide ((4:Int)<(x.outs.length:Int))=false:=AS (by omega);by_cases p2:8<x.after.length
 ·have q2:decide ((8:Int)<(x.after.length:Int))=true:=BY (by omega);simp only[aA,Tryz.f149,KP,Ax.loadAt,↓reduceIte,reduceEqDiff,reduceLT,reduceAdd,reduceCtorEq,h.a_,h.bM,o1,o2,o3,o4,la,lb,lc,k1,e1,q0,q1,q2];show V.int .i64 4=V.int .i64 (bA x);rw[show bA x=4 from by unfold bA;rw[an (by rw[e1];simp)];rw[az (by unfold long;rw[BY p2];simp)]]
 have q2:decide ((8:Int)<(x.after.length:Int))=false:=AS (by omega);by_cases p3:12<x.steps.length
 ·have q3:decide ((12:Int)<(x.steps.length:Int))=true:=BY (by omega);simp only[aA,Tryz.f149,KP,Ax.loadAt,↓reduceIte,reduceEqDiff,reduceLT,reduceAdd,reduceCtorEq,h.a_,h.fS,h.bM,o1,o2,o3,o4,la,lb,lc,ld,k1,e1,q0,q1,q2,q3];show V.int .i64 4=V.int .i64 (bA x);rw[show bA x=4 from by unfold bA;rw[an (by rw[e1];simp)];rw[az (by unfold long;rw[BY p3];simp)]]
 have q3:decide ((12:Int)<(x.steps.length:Int))=false:=AS (by omega);cases e2:fH x with
 |false=>
  simp only[aA,Tryz.f149,KP,Ax.loadAt,↓reduceIte,reduceEqDiff,reduceLT,reduceAdd,reduceCtorEq,h.a_,h.fS,h.bM,o1,o2,o3,o4,la,lb,lc,ld,k1,k2,e1,q0,q1,q2,q3,e2];show V.int .i64 2=V.int .i64 (bA x);rw[show bA x=2 from by unfold bA;rw[an (by rw[e1];simp)];rw[an (by unfold long;rw[AS p0,AS p1,AS p2,AS p3];simp)];rw[az e2]]
 |true=>
 simp only[aA,Tryz.f149,KP,Ax.loadAt,↓reduceIte,reduceEqDiff,reduceLT,reduceAdd,reduceCtorEq,h.a_,h.fS,h.bM,o1,o2,o3,o4,la,lb,lc,ld,k1,k2,e1,q0,q1,q2,q3,e2];show V.int .i64 0=V.int .i64 (bA x);rw[show bA x=0 from by unfold bA;rw[an (by rw[e1];simp)];rw[an (by unfold long;rw[AS p0,AS p1,AS p2,AS p3];simp)];rw[an (by rw[e2];simp)]]
theorem S_ (h:bE E) {v:V}{x:aD}(hv:Jd v x)(hs:Small x):KC E 149 [v] Z (.int .i64 (bA x)) Z:=dD λ_=>T6 h hv hs
end
end
section
section
variable {E:Env}{Z:Sg}{K:V->Sg->Prop}
def SM (E:Env) (es:List (V × V)) (get:bC->Option V):Prop:=(∀e∈es,(∃k,e.1=.str k)/\Ax.bD e.2=true)/\∀k,iQ (dF E 9) (.str k) es=some (get k)
theorem cC (h:bE E) (a b:bC):dF E 9 (.str a) (.str b)=some (Ax.seq a b):=by unfold dF;rw[h.dG]
theorem JQ:SM E [] λ_=>none:=⟨λ_ h=>(by cases h),λ_=>rfl⟩
theorem Gc (h:bE E) {v:V} (k:bC)(hv:Ax.bD v=true):∀{es:List (V × V)}{get:bC->Option V},SM E es get->∃es',kN (dF E 9) (.str k) v es=some es'/\SM E es' λq=>if q=k then some v else get q
 | [],get,hs=>by
  refine⟨[(.str k,v)],rfl,λe he=>?_,λq=>?_⟩
  ·rw[cn.1 he];exact⟨⟨k,rfl⟩,hv⟩
  ·show _=some (if q=k then some v else get q);have e0:none=get q:=dc (hs.2 q);rw[iQ,cC h];by_cases hq:q=k
   ·rw[iM hq,az hq]
   ·rw[gL hq,an hq,<- e0];rfl
 |(k0,v0)::r,get,hs=>by
  obtain⟨⟨s0,e0⟩,i0⟩:=hs.1 _ (IN ..);dsimp only at e0 i0;subst e0;by_cases hk:k=s0
  ·refine⟨(.str k,v)::r,by rw[kN,cC h,iM hk],λe he=>?_,λq=>?_⟩
   ·rcases IT.1 he with rfl | he
    ·exact⟨⟨k,rfl⟩,hv⟩
    ·exact hs.1 e (ae _ he)
   ·have:=hs.2 q;show _=some (if q=k then some v else get q);rw[iQ,cC h]at this ⊢;by_cases hq:q=k
    ·rw[iM hq,az hq]
    ·rw[gL (show q≠s0 by rw[<- hk];exact hq)]at this;rw[gL hq,an hq];exact this
  ·have hs':SM E r λq=>if q=s0 then (match iQ (dF E 9) (.str q) r with | some y=>y | none=>none) else get q:=by
    refine⟨λe he=>hs.1 e (ae _ he),λq=>?_⟩;have:=hs.2 q;rw[iQ,cC h]at this;show _=some (if q=s0 then (match iQ (dF E 9) (.str q) r with | some y=>y | none=>none) else get q);by_cases hq:q=s0
    ·rw[az hq]
     have tot:∀(l:List (V × V)),(∀e∈l,∃k,e.1=V.str k)->∃y,iQ (dF E 9) (.str q) l=some y:=by
      intro l
      induction l with
      |nil=>intro _;exact⟨none,rfl⟩
      |cons e l ih=>
       intro hl;obtain⟨k1,e1⟩:=hl _ (IN ..);obtain⟨a,b⟩:=e;dsimp only at e1;subst e1;rw[iQ,cC h];by_cases h1:q=k1
       ·rw[iM h1];exact⟨_,rfl⟩
       ·rw[gL h1];exact ih λe he=>hl e (ae _ he)
     obtain⟨y,hy⟩:=tot r λe he=>(hs.1 e (ae _ he)).1;rw[hy]
    ·rw[an hq];rw[gL hq]at this;exact this
   obtain⟨r',e1,s1⟩:=Gc h k hv hs';refine⟨(.str s0,v0)::r',by rw[kN,cC h,gL hk];simp only[e1],λe he=>?_,λq=>?_⟩
   ·rcases IT.1 he with rfl | he
    ·exact⟨⟨s0,rfl⟩,i0⟩
    ·exact s1.1 e he
   ·have:=hs.2 q;show _=some (if q=k then some v else get q);rw[iQ,cC h]at this ⊢;by_cases hq:q=s0
    ·rw[iM hq]at this ⊢;rw[an (show q≠k by rw[hq];exact jy hk)];exact this
    ·rw[gL hq];have h2:=s1.2 q;dsimp only at h2;rw[an hq]at h2;exact h2
def SB (E:Env) (es:List (V × V)) (p:bC->Bool):Prop:=SM E es λk=>if p k=true then some (.bool true) else none
theorem Pc:SB E [] λ_=>false:=JQ
theorem VI (h:bE E) {es:List (V × V)}{p:bC->Bool}(hs:SB E es p) (k:bC):∃es',kN (dF E 9) (.str k) (.bool true) es=some es'/\SB E es' λq=>p q||decide (q=k):=by
 obtain⟨es',h1,h2⟩:=Gc h (v:=.bool true) k rfl hs;refine⟨es',h1,h2.1,λq=>(h2.2 q).trans ?_⟩;show some (if q=k then some (V.bool true) else if p q=true then some (V.bool true) else none)=some (if (p q||decide (q=k))=true then some (V.bool true) else none);by_cases hq:q=k
 ·rw[az hq,BY hq,Bool.or_true,az rfl]
 ·rw[an hq,AS hq,Bool.or_false]
theorem SB.congr {es:List (V × V)}{p q:bC->Bool}(hs:SB E es p) (e:∀k,p k=q k):SB E es q:=by
 rwa [show p=q from funext e]at hs
theorem Gv (h:bE E) {Z:Sg}{x:V}{es:List (V × V)}{p:bC->Bool}(hx:entriesOf Z x=some es)(hs:SB E es p) (k:bC):lookup E Z 109 x (.str k) false=some (.bool (p k)):=by
 have hk:eF E 9 (.str k)=true:=by unfold eF;rw[h.dG]
 unfold Ax.lookup;simp only[h.tY,h.Ee,hk,hx,hs.2 k,dj,ah,ay];cases p k <;> rfl
theorem Ot (h:bE E) {Z:Sg}{b:Nat}{es:List (V × V)}{p:bC->Bool}(hb:Z[b]?=some (.map es))(hs:SB E es p) (k:bC):∃es',mapUpdate E Z 109 (.mp b) (.str k) (.bool true)=some (Z.set b (.map es'))/\SB E es' λq=>p q||decide (q=k):=by
 obtain⟨es',h1,h2⟩:=VI h hs k;have hk:eF E 9 (.str k)=true:=by unfold eF;rw[h.dG]
 refine⟨es',?_,h2⟩;unfold Ax.mapUpdate;simp only[h.tY,hk,hb,h1,fB,V.aY,dj,je,ah,ay,cg]
theorem MQ (h:bE E) {Z:Sg}{b m:Nat}{es:List (V × V)}{get:bC->Option V}(hb:Z[b]?=some (.map es))(hs:SM E es get):bG Z E.ty true (m+2) (.mp b)=some (.imp true es):=by
 rw[bG];simp only[hb];rw[f_ λe he=>?_];obtain⟨⟨k,e1⟩,e2⟩:=hs.1 e he;obtain⟨a,v⟩:=e;dsimp only at e1 e2;subst e1;have e3:bG Z E.ty true (m+1) v=some v:=jK e2;have e4:=bV e2;have hpc:(V.str k).cells.all Ax.plainCell=true:=rfl
 cases v <;> first
  |(simp only[hpc,e3,e4,bf];done)
  |cases e2
theorem EJ (h:bE E) {Z:Sg}{f k b t:Nat}{ex:Bool}{es:List (V × V)}{get:bC->Option V}(hk:Z[k]?=some (.cells t [.mp b] ex))(hb:Z[b]?=some (.map es))(hs:SM E es get):aU Z E.ty true (.fn f [] [.ref k 0])=some (.fn f [] [.cZ true [.imp true es]]):=by
 refine xK hk ?_;simp only[aX,MQ (m:=9) h hb hs,show cL true (V.imp true es)=true from rfl,bf]
theorem QT (h:bE E) {es:List (V × V)}{p:bC->Bool}{y:bC}{g g2:Bool}(hs:SB E es p):aB E 156 [.str y,.cZ g [.imp g2 es]] [] K=K (.bool (p y)) []:=by
 refine aB.of ?_;have hi:Ax.bD (.cZ g [.imp g2 es])=true:=rfl;have ew:=cJ (Z:=[]) (ty:=E.ty) hi (bV hi);rw[aI h.aaG h.Yf h.abx h.ZK (args':=[.str y,.cZ g [.imp g2 es]]) (by simp only[aX,dK,ew]),aW (by kernel_rfl)];have hl:=λZ=>Gv (Z:=Z) (x:=.imp g2 es) h rfl hs y;simp only[aA,Tryz.f156,KP,Ax.loadAt,↓reduceIte,reduceEqDiff,reduceLT,reduceAdd,reduceCtorEq,h.tY,hl];exact rfl
theorem QS (h:bE E) {es:List (V × V)}{p:bC->Bool}{y:bC}{g g2:Bool}(hs:SB E es p):aB E 157 [.str y,.cZ g [.imp g2 es]] [] K=K (.bool (!p y)) []:=by
 refine aB.of ?_;have hi:Ax.bD (.cZ g [.imp g2 es])=true:=rfl;have ew:=cJ (Z:=[]) (ty:=E.ty) hi (bV hi);rw[aI h.aaF h.Ye h.abw h.ZJ (args':=[.str y,.cZ g [.imp g2 es]]) (by simp only[aX,dK,ew]),aW (by kernel_rfl)];have hl:=λZ=>Gv (Z:=Z) (x:=.imp g2 es) h rfl hs y;simp only[aA,Tryz.f157,KP,Ax.loadAt,↓reduceIte,reduceEqDiff,reduceLT,reduceAdd,reduceCtorEq,h.tY,hl];exact rfl
end
end
section
section
variable {E:Env}{Z:Sg}{K:V->Sg->Prop}
structure oG (E:Env) (Y:Sg) (kr ko mr mo:Nat) (p1 p2:bC->Bool):Prop where
 b1:Y[kr]?=some (.cells 109 [.mp mr] true)
 b2:Y[ko]?=some (.cells 109 [.mp mo] true)
 m1:∃es,Y[mr]?=some (.map es)/\SB E es p1
 m2:∃es,Y[mo]?=some (.map es)/\SB E es p2
 ne:mr≠mo
theorem oG.app {Y:Sg}{kr ko mr mo:Nat}{p1 p2:bC->Bool}(h:oG E Y kr ko mr mo p1 p2) (y:O):oG E (Y++[y]) kr ko mr mo p1 p2:=by
 obtain⟨e1,h1,s1⟩:=h.m1;obtain⟨e2,h2,s2⟩:=h.m2;exact⟨aJ h.b1,aJ h.b2,⟨e1,aJ h1,s1⟩,⟨e2,aJ h2,s2⟩,h.ne⟩
theorem qO {Y:Sg}{i j:Nat}{x y:O}(h1:Y[i]?=some x)(h2:Y[j]?=some y)(h:x≠y):i≠j:=λe=>h (by rw[e,h2]at h1;exact (dc h1).symm)
theorem oG.VN {Y:Sg}{kr ko mr mo:Nat}{p1 p2 q1:bC->Bool}{es:List (V × V)}(h:oG E Y kr ko mr mo p1 p2)(hs:SB E es q1):oG E (Y.set mr (.map es)) kr ko mr mo q1 p2:=by
 obtain⟨e1,h1,s1⟩:=h.m1;obtain⟨e2,h2,s2⟩:=h.m2;have n1:=qO h1 h.b1 (by intro e;cases e);have n2:=qO h1 h.b2 (by intro e;cases e);exact⟨by rw[No n1];exact h.b1,by rw[No n2];exact h.b2,⟨es,by rw[bt (AI.1 h1).1],hs⟩,⟨e2,by rw[No h.ne];exact h2,s2⟩,h.ne⟩
theorem oG.put2 {Y:Sg}{kr ko mr mo:Nat}{p1 p2 q2:bC->Bool}{es:List (V × V)}(h:oG E Y kr ko mr mo p1 p2)(hs:SB E es q2):oG E (Y.set mo (.map es)) kr ko mr mo p1 q2:=by
 obtain⟨e1,h1,s1⟩:=h.m1;obtain⟨e2,h2,s2⟩:=h.m2;have n1:=qO h2 h.b1 (by intro e;cases e);have n2:=qO h2 h.b2 (by intro e;cases e);exact⟨by rw[No n1];exact h.b1,by rw[No n2];exact h.b2,⟨e1,by rw[No (jy h.ne)];exact h1,s1⟩,⟨es,by rw[bt (AI.1 h2).1],hs⟩,h.ne⟩
def iP (rs:List aD) (k:bC):Bool:=rs.any λq=>decide (q.name=k)
def wX (rs:List aD) (k:bC):Bool:=rs.any λq=>decide (k∈q.outs)
theorem uQ {rs:List aD}{n:bC}:decide (gE rs n=none) = !iP rs n:=by
 unfold gE iP;rw[<- cF];cases bQ (λr=>decide (r.name=n)) rs <;> rfl
theorem DT {rs:List aD}{i:Nat}{r:aD}(hr:rs[i]?=some r):oW rs i=(iP (rs.take i) r.name||r.outs.any (wX (rs.take i))):=by
 unfold oW iP wX;rw[hr,e8];simp only[fg,fl,aa];constructor
 ·rintro⟨q,hq,e | ⟨x,hx,e⟩⟩
  ·exact .inl ⟨q,hq,e⟩
  ·exact .inr ⟨x,hx,q,hq,e⟩
 ·rintro (⟨q,hq,e⟩ | ⟨x,hx,q,hq,e⟩)
  ·exact⟨q,hq,.inl e⟩
  ·exact⟨q,hq,.inr ⟨x,hx,e⟩⟩
theorem H9 {rs:List aD}{i:Nat}{r:aD}(hr:rs[i]?=some r) (k:bC):iP (rs.take (i+1)) k=(iP (rs.take i) k||decide (k=r.name)):=by
 unfold iP;rw[qG hr,nj.2 ⟨Eq.symm,Eq.symm⟩]
theorem J5 {rs:List aD}{i:Nat}{r:aD}(hr:rs[i]?=some r) (k:bC):wX (rs.take (i+1)) k=(wX (rs.take i) k||decide (k∈r.outs)):=qG hr
theorem Y6 (h:bE E) {a:V}{rs:List aD} (ia:IS dN a rs)(hs:∀x∈rs,Small x)(hE:gO rs=if gT rs=true then 2 else 0)(hl:rs.length<=4294967296) {Y:Sg}{kr ko mr mo:Nat}{p2:bC->Bool} (bx:oG E Y kr ko mr mo (iP rs) p2) (F:FT) (g0:F.get 0=a) (g7:F.get 7=.ref kr 0)(hk:∀nm σ',K (.fM [.int .i64 (gO rs),.str nm]) σ') :
  R E (cutAt [1,1,1,1,1] (aA Tryz.f119).code) [] ⟨81,F⟩ Y (nL E (aA Tryz.f119).results K):=by
 have la:=dA h ia;have d28:=h.TI;simp only[aA,Tryz.f119,cutAt,aq]at d28;simp only[aA,Tryz.f119,KP,↓reduceIte,reduceLT,cutAt,g0,la];refine aV (λi F Y=>F.get 7=.ref kr 0/\F.get 68=a/\F.get 69=.int .i64 (rs.length:Int)/\F.get 70=.int .i64 (i:Int)/\oG E Y kr ko mr mo (iP rs) p2/\∀(j:Nat) (r:aD),j<i->rs[j]?=some r->r.after.any (λn=>!iP rs n)=false) rs.length ?_ ?_ rs.length 0 _ _ (by omega) (fK (by simp +decide only[GS,g7,aj]) ⟨bx,λj r hj=>by omega⟩)
 ·rintro i F Y hi ⟨g7,g68,g69,g70,bx,hp⟩ next
  obtain⟨r,hr⟩:∃y,rs[i]?=some y:=⟨_,AT hi⟩;obtain⟨g,p1,p2',p3,p4,e1,i1,i2,i3,i4⟩:=fL h ia hr;have hsm:=hs r (ag hr);have a3:=hsm.after;have o1:=aP i1.bD;have o2:=aP i2.bD;have o3:=aP i3.bD;have o4:=aP i4.bD;have hlt:=dP hi;have hadd:=bW i (by omega);have bx1:=bx.app (O.cells 46 [.str r.name,p1,p2',p3,p4] true);have s1:(Y++[O.cells 46 [.str r.name,p1,p2',p3,p4] true])[Y.length]?=some (O.cells 46 [.str r.name,p1,p2',p3,p4] true):=aL;rw[aG];simp only[KP,Ax.loadAt,Ax.storeAt,↓reduceIte,reduceEqDiff,reduceLT,reduceAdd,reduceCtorEq,h.a_,h.bM,g7,g68,g69,g70,hlt,e1,o1,o2,o3,o4,aL,bR];generalize Y++[O.cells 46 [.str r.name,p1,p2',p3,p4] true]=τ1 at *;generalize Y.length=y at *;obtain⟨es,hm,hsb⟩:=bx1.m1;have ef:=EJ (f:=157) h bx1.b1 hm hsb
  have kf:=dD (λK=>rZ (Z:=τ1) (K:=K) (k:=157) (caps:=[.cZ true [.imp true es]]) (P:=λn=>!iP rs n) h (i3.ls τ1 9) (by omega) (λc hc=>by cases hc with | head=>rfl | tail _ hc=>cases hc) (λy v hy hv=>by
   subst hv;show aB E 157 [.str y,.cZ true [.imp true es]] [] _;rw[QS h hsb];exact⟨rfl,rfl⟩) ef)
  cases m:r.after.any λn=>!iP rs n with
  |true=>
   have hstr:gT rs=true:=by
    unfold gT;refine fg.2 ⟨r,ag hr,?_⟩;rw[<- m];exact au (λf=>r.after.any f) (funext λn=>uQ)
   rw[hE,az hstr]at hk;simp only[KP,Ax.loadAt,↓reduceIte,reduceEqDiff,reduceLT,reduceCtorEq,h.dG,h.bM,s1,kf,m,aT d28,bK];exact hk _ _
  |false=>
  simp only[KP,↓reduceIte,reduceEqDiff,reduceLT,g70,kf,m,hadd];refine next _ _ (fK (by simp +decide only[GS,g7,g68,g69,aj]) ⟨bx1,λj q hj hq=>?_⟩)
  rcases cj j i with g | g
  ·exact hp j q g hq
  ·obtain rfl:j=i:=by omega
   rw[hr]at hq;cases hq;exact m
 ·rintro F Y ⟨g7,g68,g69,g70,bx,hp⟩
  have hstr:gT rs=false:=by
   unfold gT;refine mu.2 λr hr=>?_;obtain⟨j,hj,e⟩:=fm hr;have:=hp j r hj (by rw[AT hj,e]);rw[show (r.after.any λn=>decide (gE rs n=none))=r.after.any λn=>!iP rs n from au (λf=>r.after.any f) (funext λn=>uQ),this];simp
  rw[hE,an (by rw[hstr];simp)]at hk;have hlt:=dZ (bl rs.length);rw[aG];simp only[KP,↓reduceIte,reduceEqDiff,reduceLT,lP,g69,g70,hlt];exact hk _ _
end
end
section
section
variable {E:Env}{Z:Sg}{K:V->Sg->Prop}
theorem oG.congr {Y:Sg}{kr ko mr mo:Nat}{p1 p2 q1 q2:bC->Bool}(h:oG E Y kr ko mr mo p1 p2) (e1:∀k,p1 k=q1 k) (e2:∀k,p2 k=q2 k):oG E Y kr ko mr mo q1 q2:=by
 rwa [show p1=q1 from funext e1,show p2=q2 from funext e2]at h
theorem Y5 (h:bE E) {a:V}{rs:List aD} (ia:IS dN a rs)(hs:∀x∈rs,Small x)(hE:gO rs=if tQ rs=true then 2 else if gT rs=true then 2 else 0)(hl:rs.length<=4294967296) {Y:Sg}{kr ko mr mo:Nat} (bx:oG E Y kr ko mr mo (λ_=>false) (λ_=>false)) (F:FT) (g0:F.get 0=a) (g7:F.get 7=.ref kr 0) (g8:F.get 8=.ref ko 0)(hk:∀nm σ',K (.fM [.int .i64 (gO rs),.str nm]) σ') :
  R E (cutAt [1,1,1,1] (aA Tryz.f119).code) [] ⟨81,F⟩ Y (nL E (aA Tryz.f119).results K):=by
 have la:=dA h ia;have key:=λ(hE':gO rs=if gT rs=true then 2 else 0) Y p2 bx F g0 g7=>Y6 (K:=K) (Y:=Y) (kr:=kr) (ko:=ko) (mr:=mr) (mo:=mo) (p2:=p2) h ia hs hE' hl bx F g0 g7 hk;rw[show cutAt [1,1,1,1] (aA Tryz.f119).code=.seq (cutAt [1,1,1,1,0] (aA Tryz.f119).code) (cutAt [1,1,1,1,1] (aA Tryz.f119).code) from rfl];have d16:=h.TJ;simp only[aA,Tryz.f119,cutAt,aq]at d16;generalize cutAt [1,1,1,1,1] (aA Tryz.f119).code=C at key ⊢;simp only[aA,Tryz.f119,KP,↓reduceIte,reduceLT,cutAt,g0,la];refine aV (λi F Y=>F.get 0=a/\F.get 7=.ref kr 0/\F.get 8=.ref ko 0/\F.get 35=a/\F.get 36=.int .i64 (rs.length:Int)/\F.get 37=.int .i64 (i:Int)/\oG E Y kr ko mr mo (iP (rs.take i)) (wX (rs.take i))/\∀j,j<i->oW rs j=false) rs.length ?_ ?_ rs.length 0 _ _ (by omega) (Ab (by simp +decide only[GS,g0,g7,g8,aj]) ⟨bx,λj hj=>by omega⟩)
 ·rintro i F Y hi ⟨g0,g7,g8,g35,g36,g37,bx,hp⟩ next
  obtain⟨r,hr⟩:∃y,rs[i]?=some y:=⟨_,AT hi⟩;obtain⟨g,p1,p2',p3,p4,e1,i1,i2,i3,i4⟩:=fL h ia hr;have hsm:=hs r (ag hr);have a2:=hsm.outs;have o1:=aP i1.bD;have o2:=aP i2.bD;have o3:=aP i3.bD;have o4:=aP i4.bD;have hlt:=dP hi;have hadd:=bW i (by omega);have lo:=bP h i2;have bx1:=bx.app (O.cells 46 [.str r.name,p1,p2',p3,p4] true);have s1:(Y++[O.cells 46 [.str r.name,p1,p2',p3,p4] true])[Y.length]?=some (O.cells 46 [.str r.name,p1,p2',p3,p4] true):=aL;rw[aG];simp only[KP,Ax.loadAt,Ax.storeAt,↓reduceIte,reduceEqDiff,reduceLT,reduceAdd,h.bM,h.tY,g7,g8,g35,g36,g37,hlt,e1,o1,o2,o3,o4,aL,bR];generalize Y++[O.cells 46 [.str r.name,p1,p2',p3,p4] true]=τ1 at *;generalize Y.length=y at *;obtain⟨es1,hm1,hsb1⟩:=bx1.m1;obtain⟨es2,hm2,hsb2⟩:=bx1.m2;have bb1:=bx1.b1;have ef:=EJ (f:=156) h bx1.b2 hm2 hsb2
  have kf:=dD (λK=>rZ (Z:=τ1) (K:=K) (k:=156) (caps:=[.cZ true [.imp true es2]]) (P:=wX (rs.take i)) h (i2.ls τ1 9) (by omega) (λc hc=>by cases hc with | head=>rfl | tail _ hc=>cases hc) (λy v hy hv=>by
   subst hv;show aB E 156 [.str y,.cZ true [.imp true es2]] [] _;rw[QT h hsb2];exact⟨rfl,rfl⟩) ef)
  have hlk:=Gv (Z:=τ1) (x:=.mp mr) h (by unfold entriesOf;simp only[hm1]) hsb1 r.name;have hcl:=DT hr
  have yes:oW rs i=true->gO rs=2:=λe=>by
   rw[hE,az];exact fg.2 ⟨i,kj.2 hi,e⟩
  cases m1:iP (rs.take i) r.name with
  |true=>
   rw[m1,Bool.true_or]at hcl;rw[yes hcl]at hk;simp only[KP,Ax.loadAt,↓reduceIte,reduceEqDiff,reduceLT,reduceCtorEq,h.dG,h.bM,s1,bb1,hlk,m1,aT d16,bK];exact hk _ _
  |false=>
  rw[m1,Bool.false_or]at hcl;cases m2:r.outs.any (wX (rs.take i)) with
  |true=>
   rw[m2]at hcl;rw[yes hcl]at hk;simp only[KP,Ax.loadAt,↓reduceIte,reduceEqDiff,reduceLT,reduceCtorEq,h.dG,h.a_,h.bM,s1,bb1,hlk,kf,m1,m2,aT d16,bK];exact hk _ _
  |false=>
  rw[m2]at hcl;obtain⟨es1',hu,hsb1'⟩:=Ot h hm1 hsb1 r.name;have bx2:=bx1.VN hsb1';have ny:mr≠y:=qO hm1 s1 (by intro e;cases e);have s2:(τ1.set mr (.map es1'))[y]?=some (O.cells 46 [.str r.name,p1,p2',p3,p4] true):=by rw[No ny];exact s1
  simp only[KP,Ax.loadAt,↓reduceIte,reduceEqDiff,reduceLT,reduceCtorEq,h.dG,h.a_,h.bM,h.tY,g7,s1,bb1,hlk,kf,m1,m2,hu,s2,lo];refine aV (λj F Y=>F.get 0=a/\F.get 7=.ref kr 0/\F.get 8=.ref ko 0/\F.get 35=a/\F.get 36=.int .i64 (rs.length:Int)/\F.get 37=.int .i64 (i:Int)/\F.get 58=p2'/\F.get 59=.int .i64 (r.outs.length:Int)/\F.get 60=.int .i64 (j:Int)/\oG E Y kr ko mr mo (λk=>iP (rs.take i) k||decide (k=r.name)) (λk=>wX (rs.take i) k||decide (k∈r.outs.take j))) r.outs.length ?_ ?_ r.outs.length 0 _ _ (by omega) (BF (by simp +decide only[GS,g0,g7,g8,g35,g36,g37,aj]) (bx2.congr (λ_=>rfl) (λk=>by simp)))
  ·rintro j F Y hj ⟨g0,g7,g8,g35,g36,g37,g58,g59,g60,bx⟩ next2;obtain⟨s,hsj⟩:∃y,r.outs[j]?=some y:=⟨_,AT hj⟩;obtain⟨g',e2⟩:=gP h i2 hsj;have hlt2:=dP hj;have hadd2:=bW j (by omega);obtain⟨es3,hm3,hsb3⟩:=bx.m2;obtain⟨es3',hu3,hsb3'⟩:=Ot h hm3 hsb3 s;have bb2:=bx.b2;rw[aG];simp only[KP,Ax.loadAt,↓reduceIte,reduceEqDiff,reduceLT,h.dG,h.tY,g8,g58,g59,g60,hlt2,e2,bb2,hu3,hadd2];refine next2 _ _ (BF (by simp +decide only[GS,g0,g7,g8,g35,g36,g37,g58,g59,aj]) ((bx.put2 hsb3').congr (λ_=>rfl) (λk=>?_)));rw[ek,hsj,Bool.or_assoc,e8];simp
  ·rintro F Y ⟨g0,g7,g8,g35,g36,g37,g58,g59,g60,bx⟩;rw[ak (OF _)]at bx;have hlt2:=dZ (bl r.outs.length);rw[aG];simp only[KP,↓reduceIte,reduceEqDiff,reduceLT,g37,g59,g60,hlt2,hadd];refine next _ _ (Ab (by simp +decide only[GS,g0,g7,g8,g35,g36,aj]) ⟨bx.congr (λk=>(H9 hr k).symm) (λk=>(J5 hr k).symm),λj hj=>?_⟩)
   rcases cj j i with g | g
   ·exact hp j g
   ·obtain rfl:j=i:=by omega
    exact hcl
 ·rintro F Y ⟨g0,g7,g8,g35,g36,g37,bx,hp⟩;have hcl:tQ rs=false:=mu.2 λj hj=>by rw[hp j (kj.1 hj)];simp
  rw[an (by rw[hcl];simp)]at hE;rw[ak (OF _)]at bx;have hlt:=dZ (bl rs.length);rw[aG];simp only[KP,↓reduceIte,reduceLT,g36,g37,hlt];exact key hE _ _ bx _ (by simp +decide only[GS,g0]) (by simp +decide only[GS,g7])
end
end
section
section
variable {E:Env}{Z:Sg}{K:V->Sg->Prop}
theorem wJ {Y:Sg}{a b c d:O}{n:Nat}:(Y++[a]++[b]++[c]++[d])[Y.length+n]?=[a,b,c,d][n]?:=by
 rw[cw,cw,cw,br (by omega),mw];rfl
theorem Qu {Y:Sg}{a b c d x:O}:(Y++[a]++[b]++[c]++[d]).set (Y.length+2) x=Y++[a]++[b]++[x]++[d]:=by
 rw[cw,cw,cw,o6 _ _ (by omega),mw,cw,cw,cw];rfl
theorem Nv {Y:Sg}{a b c d x:O}:(Y++[a]++[b]++[c]++[d]).set (Y.length+3) x=Y++[a]++[b]++[c]++[x]:=by
 rw[cw,cw,cw,o6 _ _ (by omega),mw,cw,cw,cw];rfl
theorem Km {Y:Sg}{a b c:O}:(Y++[a]).length=Y.length+1/\(Y++[a]++[b]).length=Y.length+2/\(Y++[a]++[b]++[c]).length=Y.length+3:=by simp
theorem Mq (h:bE E) {a:V}{rs:List aD}(ha:LS dN 46 Z a rs)(hs:∀x∈rs,Small x)(hl:rs.length<=4294967296):aB E 119 [a] Z λv σ'=>σ'=Z/\∃nm,v=.fM [.int .i64 (gO rs),.str nm]:=by
 obtain⟨a',ea,ia⟩:=fE h ha;rw[aI h.aaQ h.Yp h.abH h.ZU (args':=[a']) (by simp only[aX,ea]),aW (by kernel_rfl)];have la:=dA h ia
 have key:=λhE Y kr ko mr mo bx F g0 g7 g8=>Y5 (K:=λv σ1=>match cG σ1 E.ty false v with
   |some v=>∃nm,v=.fM [.int .i64 (gO rs),.str nm]
   |none=>False) (Y:=Y) (kr:=kr) (ko:=ko) (mr:=mr) (mo:=mo) h ia hs hE hl bx F g0 g7 g8 (λnm σ'=>⟨nm,rfl⟩)
 rw[show (aA Tryz.f119).code=.seq (cutAt [0] (aA Tryz.f119).code) (.seq (cutAt [1,0] (aA Tryz.f119).code) (.seq (cutAt [1,1,0] (aA Tryz.f119).code) (.seq (cutAt [1,1,1,0] (aA Tryz.f119).code) (cutAt [1,1,1,1] (aA Tryz.f119).code)))) from rfl];have d6:=h.WT;simp only[aA,Tryz.f119,cutAt,aq]at d6;generalize cutAt [1,1,1,1] (aA Tryz.f119).code=C at key ⊢;simp only[aA,Tryz.f119,KP,↓reduceIte,reduceLT,reduceCtorEq,lP,cutAt,la];refine aV (λi F Y=>F.get 0=a'/\F.get 16=a'/\F.get 17=.int .i64 (rs.length:Int)/\F.get 18=.int .i64 (i:Int)/\∀(j:Nat) (r:aD),j<i->rs[j]?=some r->bA r=0) rs.length ?_ ?_ rs.length 0 _ _ (by omega) (fK (by simp +decide only[GS,aj]) (λj r hj=>by omega))
 ·rintro i F Y hi ⟨g0,g16,g17,g18,hp⟩ next
  obtain⟨r,hr⟩:∃y,rs[i]?=some y:=⟨_,AT hi⟩;obtain⟨g,p1,p2,p3,p4,e1,i1,i2,i3,i4⟩:=fL h ia hr;have hsm:=hs r (ag hr);have o1:=aP i1.bD;have o2:=aP i2.bD;have o3:=aP i3.bD;have o4:=aP i4.bD;have hlt:=dP hi;have hadd:=bW i (by omega);have s1:(Y++[O.cells 46 [.str r.name,p1,p2,p3,p4] true])[Y.length]?=some (O.cells 46 [.str r.name,p1,p2,p3,p4] true):=aL;have kr:=λ(Y:Sg)=>S_ (Z:=Y) h (v:=.agg [.str r.name,p1,p2,p3,p4]) ⟨p1,p2,p3,p4,rfl,i1,i2,i3,i4⟩ hsm;rw[aG];simp only[KP,Ax.loadAt,Ax.storeAt,↓reduceIte,reduceEqDiff,reduceLT,reduceAdd,h.bM,g16,g17,g18,hlt,e1,o1,o2,o3,o4,aL,bR];generalize Y++[O.cells 46 [.str r.name,p1,p2,p3,p4] true]=τ1 at *;generalize Y.length=y at *;by_cases he:bA r=0
  ·have q:=BY he;simp only[KP,↓reduceIte,reduceEqDiff,reduceLT,g18,kr,q,hadd];refine next _ _ (fK (by simp +decide only[GS,g0,g16,g17,aj]) (λj x hj hx=>?_))
   rcases cj j i with g | g
   ·exact hp j x g hx
   ·obtain rfl:j=i:=by omega
    rw[hr]at hx;cases hx;exact he
  ·have q:=AS he;rw[A2 hr he λj s hj hx=>hp j s hj hx];simp only[KP,Ax.loadAt,↓reduceIte,reduceEqDiff,reduceLT,reduceCtorEq,h.dG,h.bM,s1,kr,q,aT d6,bK];exact⟨r.name,rfl⟩
 ·rintro F Y ⟨g0,g16,g17,g18,hp⟩;have hE:=zY λj s hx=>hp j s (AI.1 hx).1 hx;have hlt:=dZ (bl rs.length);rw[aG];by_cases h40:40<rs.length
  ·have q:decide ((40:Int)<(rs.length:Int))=true:=BY (by omega);rw[az h40]at hE;rw[hE];simp only[KP,↓reduceIte,reduceEqDiff,reduceLT,reduceCtorEq,lP,g0,g17,g18,hlt,la,q];exact⟨[],rfl⟩
  ·have q:decide ((40:Int)<(rs.length:Int))=false:=AS (by omega);rw[an h40]at hE;have n1:=(Km (Y:=Y) (a:=.map []) (b:=.map []) (c:=.cells 109 [.bX] true)).1;have n2:=(Km (Y:=Y) (a:=.map []) (b:=.map []) (c:=.cells 109 [.bX] true)).2.1;have n3:=(Km (Y:=Y) (a:=.map []) (b:=.map []) (c:=.cells 109 [.bX] true)).2.2;have q1:(Y++[O.map []]++[O.map []]++[O.cells 109 [.bX] true]++[O.cells 109 [.bX] true])[Y.length+2]?=some (O.cells 109 [.bX] true):=wJ;have q2:(Y++[O.map []]++[O.map []]++[O.cells 109 [.mp Y.length] true]++[O.cells 109 [.bX] true])[Y.length+3]?=some (O.cells 109 [.bX] true):=wJ;simp only[KP,Ax.storeAt,↓reduceIte,reduceEqDiff,reduceLT,reduceCtorEq,h.tY,g0,g17,g18,hlt,la,q,n1,n2,n3,q1,q2,Qu,Nv];refine key hE _ (Y.length+2) (Y.length+3) Y.length (Y.length+1) ⟨wJ,wJ,⟨[],wJ (n:=0),Pc⟩,⟨[],wJ,Pc⟩,by omega⟩ _ ?_ ?_ ?_
   ·exact (by simp +decide only[GS,g0])
   ·exact (by simp +decide only[GS])
   ·exact (by simp +decide only[GS])
end
end
section
section
variable {E:Env}{Z:Sg}{K:V->Sg->Prop}
theorem Fj {lt:List V->List V->Bool} (x:List V):∀l,(Dq lt x l).Perm (x::l)
 | []=>.refl _
 |y::r=>by
  rw[Dq];split
  ·exact .refl _
  ·exact ((Fj x r).cons y).trans (.swap x y r)
theorem Dz {lt:List V->List V->Bool}:∀(l acc:List (List V)),(l.foldl (λacc x=>Dq lt x acc) acc).Perm (l++acc)
 | [],acc=>.refl _
 |x::l,acc=>by
  rw[jm];refine (Dz l _).trans ?_;exact ((Fj x acc).append_left l).trans jw
theorem JH {lt:List V->List V->Bool} (l:List (List V)):(kS lt l).Perm l:=by
 have:=Dz (lt:=lt) l []
 rwa [ig]at this
def Hi:List V->bC
 | [.str s]=>s
 |_=>[]
theorem B8:∀{rs:List (List V)}{l:List bC},eJ aO.P rs l->rs=l.map λs=>[V.str s]
 |_,_,.nil=>rfl
 |_,_,.cons h t=>by rw[bh,B8 t,show _=[V.str _] from h]
theorem Az:∀l:List bC,eJ aO.P (l.map λs=>[V.str s]) l
 | []=>.nil
 |_::l=>.cons rfl (Az l)
theorem AY:∀l:List bC,((l.map λs=>[V.str s]).flatten).map (λv=>[v])=l.map λs=>[V.str s]
 | []=>rfl
 |s::l=>by simp only[bh,dw,gp,AY l];rfl
theorem BK:∀{l:List bC},(∀s∈l,s.length<=9223372036854775807)->allRows kV (l.map λs=>[V.str s])=true
 | [],_=>rfl
 |s::l,h=>by
  have h1:kV [V.str s]=true:=kg (h s (IN ..));rw[bh,allRows,h1];exact BK λx hx=>h x (ae _ hx)
theorem ED:∀{rows:List (List V)},(∀r∈rows,∃s,r=[V.str s])->rows=(rows.map Hi).map λs=>[V.str s]
 | [],_=>rfl
 |r::rows,h=>by
  obtain⟨s,e⟩:=h r (IN ..);rw[bh,bh,<- ED λx hx=>h x (ae _ hx),e];rfl
theorem Fm {Z:Sg}{w:V}{l:List bC} (ow:bB aO 9 Z w l)(hl:l.length<=1000000)(hs:∀s∈l,s.length<=9223372036854775807):∃σ' l',pZ 9 [w] Z=some (.fM [],σ')/\l'.Perm l/\bB aO 9 σ' w l'/\Sp Z σ' w/\σ'.length=Z.length:=by
 rcases ow with⟨rfl,rfl⟩ | ⟨b,rs,ex,rfl,hb,ha⟩
 ·exact⟨Z,[],rfl,.refl _,.inl ⟨rfl,rfl⟩,Sp.refl _ _,rfl⟩
 ·obtain rfl:=B8 ha;have hp:(kS strLt (l.map λs=>[V.str s])).Perm (l.map λs=>[V.str s]):=JH _
  have he:((kS strLt (l.map λs=>[V.str s])).map Hi).Perm l:=by
   have:=hp.map Hi
   rwa [jv,show Hi ∘ (λs=>[V.str s])=id from rfl,List.map_id]at this
  have hr:kS strLt (l.map λs=>[V.str s])=((kS strLt (l.map λs=>[V.str s])).map Hi).map λs=>[V.str s]:=by
   refine ED λr hr=>?_;obtain⟨s,-,e⟩:=cv.1 (hp.mem_iff.1 hr);exact⟨s,e.symm⟩
  have hlen:((l.map λs=>[V.str s]).flatten).length=l.length:=by
   have:=au List.length (AY l)
   rwa [bj,bj]at this
  refine⟨Z.set b (.cells 9 (kS strLt (l.map λs=>[V.str s])).flatten ex),_,?_,he,.inr ⟨b,_,ex,?_,?_,Az _⟩,?_,?_⟩
  ·unfold pZ;simp only[hb,AY,BK hs,show Nat.beq 9 9=true from rfl,hlen,kg hl,show Nat.beq l.length l.length=true from Nat.beq_refl _]
  ·rw[bj,hp.length_eq,bj]
  ·rw[bt (AI.1 hb).1,<- hr]
  ·intro c o hc hn;rw[No (λe=>hn (by rw[<- e];rfl))];exact hc
  ·rw[ec]
end
end
section
section
variable {E:Env}{Z:Sg}{K:V->Sg->Prop}
def OL (Y:Sg) (v:V) (l:List bC):Prop:=(v=.aF/\l=[])\/∃b cs ex,v=.sl b 0 l.length none/\Y[b]?=some (.cells 9 cs ex)/\cs.take l.length=l.map V.str
theorem DC:∀l:List bC,(l.map λs=>[V.str s]).flatten=l.map V.str
 | []=>rfl
 |s::l=>by simp only[bh,dw,DC l];rfl
theorem Iu (h:bE E) {b off n k:Nat}(hk:k<n):indexAddr E 24 (.sl b off n none) (.int .i64 (k:Int))=some (.ref b (off+k)):=by
 unfold Ax.indexAddr;simp only[h.a_,h.dG,show ¬ ((k:Int)<0) by omega,ay,dz,hk,bf,po]
theorem LX (h:bE E) {Y:Sg}{b j:Nat}{A:List bC}{ex:Bool}{s:bC}(hb:Y[b]?=some (O.cells 9 (A.map V.str) ex))(hj:A[j]?=some s):loadAt E Y 9 (.ref b j)=some (.str s):=by
 unfold Ax.loadAt;have e:(A.map V.str)[j]?=some (.str s):=by rw[jr,hj];rfl
 simp only[h.dG,hb,e,Ax.isAgg];rfl
theorem yR:∀(A:List bC) (j:Nat) (s:bC),j<A.length->setCells (A.map V.str) j [.str s]=(A.set j s).map V.str
 | [],_,_,h=>absurd h (by simp)
 |a::A,0,s,_=>rfl
 |a::A,j+1,s,h=>by
  have:=yR A j s (by simpa using h);simp only[bh,nr,<- this];rfl
theorem XI (h:bE E) {Y:Sg}{b j:Nat}{A:List bC}{ex:Bool}{s:bC}(hb:Y[b]?=some (O.cells 9 (A.map V.str) ex))(hj:j<A.length):storeAt E Y 9 (.ref b j) (.str s)=some (Y.set b (O.cells 9 ((A.set j s).map V.str) ex)):=by
 unfold Ax.storeAt;have e:decide (j+1<=(A.map V.str).length)=true:=BY (by rw[bj];omega);simp only[h.dG,hb,V.cells,af,b9,j9,l5,V.aY,e,yR A j s hj];rfl
theorem P3 (h:bE E) {Y:Sg}{b off n:Nat}:lenOf E Y 24 (.sl b off n none)=some n:=by unfold lenOf;rw[h.a_]
theorem Mc (h:bE E) {Y:Sg}{b n k:Nat}{A:List bC}{ex:Bool}(hb:Y[b]?=some (O.cells 9 (A.map V.str) ex))(hn:n=A.length)(hk:k<n):Ax.slice E Y 24 (.sl b 0 n none) (some (.int .i64 (k:Int))) none none=some (.sl b k (n-k) none):=by
 unfold Ax.slice;simp only[h.a_,h.dG,hb,bound,show decide (0<=(k:Int))=true from BY (by omega),show decide ((k:Int)<=(n:Int))=true from BY (by omega),qc,bf,dz,dh];show (if (1:Nat)=0 then none else if (!(9==9))=true then none else if k*1<(A.map V.str).length then some (V.sl b (k*1) (n-k) none) else _)=_;rw[an (by decide),an (by decide),az (by rw[bj];omega),po]
theorem RI (h:bE E) {Y:Sg}{b n k:Nat}{cs:List V}{ex:Bool}(hb:Y[b]?=some (.cells 9 cs ex))(hn:n=cs.length)(hk:k<n):Ax.slice E Y 24 (.sl b 0 n none) none (some (.int .i64 (k:Int))) none=some (.sl b 0 k none):=by
 unfold Ax.slice;simp only[h.a_,h.dG,hb,bound,Hp,show decide (0<=(k:Int))=true from BY (by omega),dz,iz,lg,Nat.sub_zero,jh]
 show (if (1:Nat)=0 then none else if (!(9==9))=true then none else match if decide ((k:Int)<=((cs.length / 1:Nat):Int))=true then some k else none with
  |none=>none
  |some h=>if 0<cs.length then some (V.sl b 0 h none) else _)=_
 rw[an (by decide),an (by decide),az (by rw[Nat.div_one];exact BY (by omega))];show (if 0<cs.length then some (V.sl b 0 k none) else _)=_;rw[az (by omega)]
theorem QF (h:bE E) {Y:Sg}{b n k:Nat}{A:List bC}{ex:Bool}(hb:Y[b]?=some (O.cells 9 (A.map V.str) ex))(hn:n=A.length)(hk:k<n):∃cs,Ax.builtin E Y .clear #[24] [.sl b k (n-k) none]=some (.fM [],Y.set b (.cells 9 cs ex))/\cs.take k=(A.take k).map V.str/\cs.length=n:=by
 have hne:¬ n-k=0:=by omega
 have hle:decide (k+(n-k)*1<=(A.map V.str).length)=true:=BY (by rw[bj];omega);refine⟨setCells (A.map V.str) k (gX (n-k) [.str []]),?_,?_,?_⟩
 ·unfold Ax.builtin
  show (match E.ty 24 with
   |some { kd:=.sl e,.. }=>match E.ty e,Y[b]? with
    |some i,some (.cells u cs ex)=>
     if n-k=0 then some (V.fM [],Y)
     else if u==e&&decide (k+(n-k)*i.size<=cs.length) then some (V.fM [],Y.set b (.cells u (setCells cs k (gX (n-k) i.zero.cells)) ex)) else none
    |_,_=>none
   |_=>none)=_
  simp only[h.a_,h.dG,hb,hne,ay];rw[hle];rfl
 ·rw[List.map_take];clear hle hne;unfold setCells;rw[cw,mm (by rw[bw,bj];omega),nq,Nat.min_self]
 ·have hr:∀m,(gX m [V.str []]).length=m:=λm=>by
   induction m with
   |zero=>rfl
   |succ m ih=>rw[gX,By,ih];simp;omega
  unfold setCells;simp only[By,bw,qi,bj,hr];omega
end
end
section
section
variable {E:Env}{Z:Sg}{K:V->Sg->Prop}
theorem Sp.set {Z Y:Sg}{w:V}{b:Nat}{y:O}(h:Sp Z Y w)(hb:aQ w=some b):Sp Z (Y.set b y) w:=λc o hc hn=>by
 rw[No (λe=>hn (by rw[hb,e]))];exact h c o hc hn
theorem fZ {l:List bC}{k:Nat}{u:bC}(hu:l[k]?=some u) (x:bC):x∈l.take (k+1) ↔ x∈l.take k\/x=u:=by
 rw[ek,hu];simp
theorem N7 (h:bE E) {w:V}{l:List bC} (ow:bB aO 9 Z w l)(hl:l.length<=1000000):aB E 122 [w] Z λv σ'=>(∃l',OL σ' v l'/\l'.length<=l.length/\∀x,x∈l' ↔ x∈l)/\(∀c,aQ v=some c->aQ w=some c)/\Sp Z σ' w/\σ'.length=Z.length:=by
 rw[cN h.aaN h.Ym h.abE h.ZR,aW (by kernel_rfl)];rcases ow with⟨rfl,rfl⟩ | ⟨b,rs,ex,rfl,hb,ha⟩
 ·have ln:lenOf E Z 24 .aF=some 0:=by unfold lenOf;rw[h.a_]
  simp only[aA,Tryz.f122,KP,↓reduceIte,reduceLT,reduceCtorEq,Int.reduceLT,ln];exact⟨⟨[],.inl ⟨rfl,rfl⟩,OF _,λx=>qj⟩,λc hc=>hc,Sp.refl _ _⟩
 obtain rfl:=B8 ha;rw[DC]at hb;have hls:OL Z (.sl b 0 l.length none) l:=.inr ⟨b,_,ex,rfl,hb,ak (by rw[bj];exact OF _)⟩;have lw:∀Y,lenOf E Y 24 (.sl b 0 l.length none)=some l.length:=λY=>P3 h;by_cases h2:l.length<2
 ·have q:decide ((l.length:Int)<2)=true:=BY (by omega);simp only[aA,Tryz.f122,KP,↓reduceIte,reduceLT,reduceCtorEq,lw,q];exact⟨⟨l,hls,OF _,λx=>qj⟩,λc hc=>hc,Sp.refl _ _⟩
 have q:decide ((l.length:Int)<2)=false:=AS (by omega);have d6:=h.WS;simp only[aA,Tryz.f122,cutAt,aq]at d6;have d11:=h.TH;simp only[aA,Tryz.f122,cutAt,aq]at d11;simp only[aA,Tryz.f122,KP,↓reduceIte,reduceLT,reduceCtorEq,lw,q];refine aV (λi F Y=>Y=Z/\F.get 0=.sl b 0 l.length none/\F.get 3=.int .i64 ((i+1:Nat):Int)) (l.length-1) ?_ ?_ (l.length-1) 0 _ _ (by omega) ⟨rfl,(by simp +decide only[GS]),(by simp +decide only[GS];rfl)⟩
 ·rintro i F Y hi ⟨rfl,g0,g3⟩ next
  obtain⟨x,hx⟩:∃x,l[i+1]?=some x:=⟨_,AT (by omega)⟩;obtain⟨y,hy⟩:∃y,l[i]?=some y:=⟨_,AT (by omega)⟩;have hlt:=dP (show i+1<l.length by omega);have hdn:=Ex (i+1) (by omega) (by omega);rw[o5]at hdn;have hadd:=bW (i+1) (by omega);have e1:=Iu (b:=b) (off:=0) h (show i+1<l.length by omega);have e2:=Iu (b:=b) (off:=0) h (show i<l.length by omega);rw[dh]at e1 e2;have e3:=LX h hb hx;have e4:=LX h hb hy;rw[aG];by_cases hxy:x=y
  case neg=>
   have hs:=gL hxy;simp only[KP,↓reduceIte,reduceEqDiff,reduceLT,reduceCtorEq,g0,g3,lw,hlt,hdn,hadd,e1,e2,e3,e4,hs,aT d6,bK];exact next _ _ ⟨rfl,(by simp +decide only[GS,g0,aj])⟩
  have hs:=iM hxy;have e5:=Mc h hb rfl (show i+1<l.length by omega);simp only[KP,↓reduceIte,reduceEqDiff,reduceLT,reduceCtorEq,g0,g3,lw,hlt,hdn,e1,e2,e3,e4,e5,hs,aT d6,bK];have hly:y∈l.take (i+1):=ag (by rw[gh (ni i)];exact hy);have bo:aQ (.sl b 0 l.length none)=some b:=rfl;have lw2:∀Y,lenOf E Y 24 (.sl b (i+1) (l.length-(i+1)) none)=some (l.length-(i+1)):=λY=>P3 h
  refine aV (λj F τ'=>F.get 0=.sl b 0 l.length none/\F.get 4=.sl b (i+1) (l.length-(i+1)) none/\F.get 5=.int .i64 ((j+1:Nat):Int)/\Sp Y τ' (.sl b 0 l.length none)/\τ'.length=Y.length/\∃(A:List bC) (K:Nat),τ'[b]?=some (O.cells 9 (A.map V.str) ex)/\A.length=l.length/\F.get 3=.int .i64 (K:Int)/\i+1<=K/\K<=i+1+j/\(∀p,i+1+j<=p->A[p]?=l[p]?)/\∀x,x∈A.take K ↔ x∈l.take (i+1+j+1)) (l.length-(i+1)-1) ?_ ?_ (l.length-(i+1)-1) 0 _ _ (by omega) (lX (by simp +decide only[GS,g0,aj]) ⟨(by simp +decide only[GS];rfl),Sp.refl _ _,rfl,l,i+1,hb,rfl,(by simp +decide only[GS,g3]),OF _,OF _,λp _=>rfl,λz=>by
   rw[fZ (k:=i+1+0) (u:=x) hx];constructor
   ·exact .inl
   ·rintro (g | rfl)
    ·exact g
    ·rw[hxy];exact hly⟩)
  ·rintro j F τ' hj ⟨g0,g4,g5,sp,hlen,A,K,hA,hAl,g3,hK1,hK2,hag,hmem⟩ next2;obtain⟨u,hu⟩:∃u,l[i+1+j+1]?=some u:=⟨_,AT (by omega)⟩;obtain⟨v,hv⟩:∃v,l[i+1+j]?=some v:=⟨_,AT (by omega)⟩;have hu':A[i+1+(j+1)]?=some u:=(hag _ (by omega)).trans hu;have hv':A[i+1+j]?=some v:=(hag _ (by omega)).trans hv;have hlt2:=dP (show j+1<l.length-(i+1) by omega);have hdn2:=Ex (j+1) (by omega) (by omega);rw[o5]at hdn2;have hadd2:=bW (j+1) (by omega);have hadd3:=bW K (by omega);have f1:=Iu (b:=b) (off:=i+1) h (show j+1<l.length-(i+1) by omega);have f2:=Iu (b:=b) (off:=i+1) h (show j<l.length-(i+1) by omega);have f3:=LX h hA hu';have f4:=LX h hA hv';have f5:=Iu (b:=b) (off:=0) h (show K<l.length by omega);rw[dh]at f5;have f6:=XI (s:=u) h hA (show K<A.length by omega);have hms:∀z,z∈l.take (i+1+(j+1)+1) ↔ z∈l.take (i+1+j+1)\/z=u:=fZ hu;rw[aG];by_cases huv:u=v
   ·have hs2:=iM huv;simp only[KP,↓reduceIte,reduceEqDiff,reduceLT,g4,g5,lw2,hlt2,hdn2,hadd2,f1,f2,f3,f4,hs2,aT d11,bK];refine next2 _ _ (iU (by simp +decide only[GS,g0,g4,aj]) ⟨sp,hlen,A,K,hA,hAl,(by simp +decide only[GS,g3]),hK1,by omega,λp hp=>hag p (by omega),λz=>?_⟩);rw[hms,hmem];constructor
    ·exact .inl
    ·rintro (g | rfl)
     ·exact g
     ·rw[huv];exact ag (by rw[gh (ni (i+1+j))];exact hv)
   ·have hs2:=gL huv;simp only[KP,↓reduceIte,reduceEqDiff,reduceLT,reduceCtorEq,g0,g3,g4,g5,lw2,hlt2,hdn2,hadd2,hadd3,f1,f2,f3,f4,f5,f6,hs2,aT d11,bK];refine next2 _ _ (iU (by simp +decide only[GS,g0,g4,aj]) ⟨Sp.set sp bo,by rw[ec];exact hlen,A.set K u,K+1,by rw[bt (AI.1 hA).1],by rw[ec];exact hAl,(by simp +decide only[GS]),by omega,by omega,λp hp=>?_,λz=>?_⟩)
    ·rw[No (by omega)];exact hag p (by omega)
    ·rw[hms,<- hmem,fZ (u:=u) (by rw[bt (by omega)]),List.take_set_of_le (OF K)]
  ·rintro F τ' ⟨g0,g4,g5,sp,hlen,A,K,hA,hAl,g3,hK1,hK2,hag,hmem⟩;have hlt2:=dZ (show ¬ l.length-(i+1)-1+1<l.length-(i+1) by omega);have f1:=Mc h hA hAl.symm (show K<l.length by omega);obtain⟨cs,f2,f3,f4⟩:=QF h hA hAl.symm (show K<l.length by omega);have hA2:(τ'.set b (.cells 9 cs ex))[b]?=some (.cells 9 cs ex):=by rw[bt (AI.1 hA).1]
   have f5:=RI h hA2 f4.symm (show K<l.length by omega);have hKl:(A.take K).length=K:=by rw[bw];omega
   rw[aG];simp only[KP,↓reduceIte,reduceEqDiff,reduceLT,reduceCtorEq,g0,g3,g4,g5,lw2,hlt2,f1,f2,f5];refine⟨⟨A.take K,.inr ⟨b,cs,ex,by rw[hKl],hA2,by rw[hKl];exact f3⟩,by rw[hKl];omega,λz=>?_⟩,λc hc=>hc,Sp.set sp bo,by rw[ec];exact hlen⟩
   ·rw[hmem,show i+1+(l.length-(i+1)-1)+1=l.length by omega,ak (OF _)]
 ·rintro F Y ⟨rfl,g0,g3⟩;have hlt:=dZ (show ¬ l.length-1+1<l.length by omega);rw[aG];simp only[KP,↓reduceIte,reduceEqDiff,reduceLT,reduceCtorEq,g0,g3,lw,hlt];exact⟨⟨l,hls,OF _,λx=>qj⟩,λc hc=>hc,Sp.refl _ _⟩
end
end
section
section
variable {E:Env}{Z:Sg}{K:V->Sg->Prop}
def MK (get:bC->Option V) (P:bC->bC->Prop):Prop:=∀k,(get k=none/\∀n,¬ P k n)\/∃n,P k n/\get k=some (.str n)
theorem MK.nil:MK (λ_=>none) λ_ _=>False:=λ_=>.inl ⟨rfl,λ_ h=>h⟩
theorem MK.put {get:bC->Option V}{P:bC->bC->Prop}(h:MK get P) (k n:bC):MK (λq=>if q=k then some (.str n) else get q) λq m=>P q m\/(q=k/\m=n):=λq=>by
 by_cases hq:q=k
 ·exact .inr ⟨n,.inr ⟨hq,rfl⟩,az hq⟩
 ·rcases h q with⟨h1,h2⟩ | ⟨m,h1,h2⟩
  ·exact .inl ⟨(an hq).trans h1,λm hm=>hm.elim (h2 m) λg=>hq g.1⟩
  ·exact .inr ⟨m,.inl h1,(an hq).trans h2⟩
theorem MK.congr {get:bC->Option V}{P Q:bC->bC->Prop}(h:MK get P) (e:∀k n,P k n ↔ Q k n):MK get Q:=λk=>by
 rcases h k with⟨h1,h2⟩ | ⟨n,h1,h2⟩
 ·exact .inl ⟨h1,λn hn=>h2 n ((e k n).2 hn)⟩
 ·exact .inr ⟨n,(e k n).1 h1,h2⟩
theorem SA (h:bE E) {Z:Sg}{x:V}{es:List (V × V)}{get:bC->Option V}(hx:entriesOf Z x=some es)(hs:SM E es get) (k:bC):lookup E Z 97 x (.str k) true=some (match get k with | some v=>.fM [v,.bool true] | none=>.fM [.str [],.bool false]):=by
 have hk:eF E 9 (.str k)=true:=by unfold eF;rw[h.dG]
 unfold Ax.lookup;simp only[h.Hl,h.dG,hk,hx,hs.2 k,dj,ah,ay];cases get k <;> rfl
theorem UZ (h:bE E) {Z:Sg}{b:Nat}{es:List (V × V)}{get:bC->Option V}(hb:Z[b]?=some (.map es))(hs:SM E es get) (k n:bC):∃es',mapUpdate E Z 97 (.mp b) (.str k) (.str n)=some (Z.set b (.map es'))/\SM E es' λq=>if q=k then some (.str n) else get q:=by
 obtain⟨es',h1,h2⟩:=Gc h (v:=.str n) k rfl hs;have hk:eF E 9 (.str k)=true:=by unfold eF;rw[h.dG]
 refine⟨es',?_,h2⟩;unfold Ax.mapUpdate;simp only[h.Hl,hk,hb,h1,fB,V.aY,dj,je,ah,ay,cg]
def Mk (rs:List aD) (k n:bC):Prop:=∃r∈rs,k∈r.outs/\n=r.name
theorem Mv {rs:List aD}{i:Nat}{r:aD}(hr:rs[i]?=some r) (k n:bC):Mk (rs.take (i+1)) k n ↔ Mk (rs.take i) k n\/(k∈r.outs/\n=r.name):=by
 unfold Mk;rw[ek,hr];simp only[cq,Option.toList_some,cn];constructor
 ·rintro⟨q,hq | rfl,h⟩
  ·exact .inl ⟨q,hq,h⟩
  ·exact .inr h
 ·rintro (⟨q,hq,h⟩ | h)
  ·exact⟨q,.inl hq,h⟩
  ·exact⟨r,.inr rfl,h⟩
theorem Zj (h:bE E) {a:V}{rs:List aD} (ia:IS dN a rs)(hs:∀x∈rs,Small x)(hl:rs.length<=4294967296) (F:FT) (g0:F.get 0=a) (g3:F.get 3=.mp 0)
  (hk:∀F' Y es get,F'.get 0=a->F'.get 3=.mp 0->Y[0]?=some (.map es)->SM E es get->MK get (Mk rs)->R E (cutAt [1,1,1] (aA Tryz.f158).code) [] ⟨74,F'⟩ Y (nL E (aA Tryz.f158).results K)) :
  R E (cutAt [1,1] (aA Tryz.f158).code) [] ⟨74,F⟩ [.map []] (nL E (aA Tryz.f158).results K):=by
 have la:=dA h ia;rw[show cutAt [1,1] (aA Tryz.f158).code=.seq (cutAt [1,1,0] (aA Tryz.f158).code) (cutAt [1,1,1] (aA Tryz.f158).code) from rfl];generalize cutAt [1,1,1] (aA Tryz.f158).code=C at hk ⊢;simp only[aA,Tryz.f158,KP,↓reduceIte,reduceLT,cutAt,g0,la];refine aV (λi F Y=>F.get 0=a/\F.get 3=.mp 0/\F.get 17=a/\F.get 18=.int .i64 (rs.length:Int)/\F.get 19=.int .i64 (i:Int)/\∃es get,Y[0]?=some (.map es)/\SM E es get/\MK get (Mk (rs.take i))) rs.length ?_ ?_ rs.length 0 _ _ (by omega) (iT (by simp +decide only[GS,g0,g3,aj]) ⟨[],λ_=>none,rfl,JQ,MK.nil.congr λk n=>⟨λh=>h.elim,λ⟨r,hr,_⟩=>by cases hr⟩⟩)
 ·rintro i F Y hi ⟨g0,g3,g17,g18,g19,es,get,hb,hsm,hmk⟩ next
  obtain⟨r,hr⟩:∃y,rs[i]?=some y:=⟨_,AT hi⟩;obtain⟨g,p1,p2,p3,p4,e1,i1,i2,i3,i4⟩:=fL h ia hr;have hsr:=hs r (ag hr);have a2:=hsr.outs;have o1:=aP i1.bD;have o2:=aP i2.bD;have o3:=aP i3.bD;have o4:=aP i4.bD;have hlt:=dP hi;have hadd:=bW i (by omega);have lo:=bP h i2;have hb1:=aJ (x:=O.cells 46 [.str r.name,p1,p2,p3,p4] true) hb;have s1:(Y++[O.cells 46 [.str r.name,p1,p2,p3,p4] true])[Y.length]?=some (O.cells 46 [.str r.name,p1,p2,p3,p4] true):=aL;rw[aG];simp only[KP,Ax.loadAt,Ax.storeAt,↓reduceIte,reduceEqDiff,reduceLT,reduceAdd,reduceCtorEq,h.a_,h.bM,g17,g18,g19,hlt,e1,o1,o2,o3,o4,aL,bR];generalize Y++[O.cells 46 [.str r.name,p1,p2,p3,p4] true]=τ1 at *;generalize Y.length=y at *;simp only[KP,↓reduceIte,reduceLT,lo];refine aV (λj F Y=>F.get 0=a/\F.get 3=.mp 0/\F.get 17=a/\F.get 18=.int .i64 (rs.length:Int)/\F.get 19=.int .i64 (i:Int)/\F.get 5=.ref y 0/\F.get 24=p2/\F.get 25=.int .i64 (r.outs.length:Int)/\F.get 26=.int .i64 (j:Int)/\Y[y]?=some (O.cells 46 [.str r.name,p1,p2,p3,p4] true)/\∃es get,Y[0]?=some (.map es)/\SM E es get/\MK get λk n=>Mk (rs.take i) k n\/(k∈r.outs.take j/\n=r.name)) r.outs.length ?_ ?_ r.outs.length 0 _ _ (by omega) (BF (by simp +decide only[GS,g0,g3,g17,g18,g19,aj]) ⟨s1,es,get,hb1,hsm,hmk.congr λk n=>by simp⟩)
  ·rintro j F Y hj ⟨g0,g3,g17,g18,g19,g5,g24,g25,g26,s1,es,get,hb,hsm,hmk⟩ next2;obtain⟨s,hsj⟩:∃y,r.outs[j]?=some y:=⟨_,AT hj⟩;obtain⟨g',e2⟩:=gP h i2 hsj;have hlt2:=dP hj;have hadd2:=bW j (by omega);obtain⟨es',hu,hsm'⟩:=UZ h hb hsm s r.name;have hy0:0≠y:=qO hb s1 (by intro e;cases e);rw[aG];simp only[KP,Ax.loadAt,↓reduceIte,reduceEqDiff,reduceLT,reduceCtorEq,h.dG,h.bM,g3,g5,g24,g25,g26,hlt2,e2,s1,hu,hadd2];refine next2 _ _ (BF (by simp +decide only[GS,g0,g3,g17,g18,g19,g5,g24,g25,aj]) ⟨by rw[No hy0];exact s1,es',_,by rw[bt (AI.1 hb).1],hsm',(hmk.put s r.name).congr λk n=>?_⟩);rw[fZ hsj];constructor
   ·rintro ((h1 | h1) | h1)
    ·exact .inl h1
    ·exact .inr ⟨.inl h1.1,h1.2⟩
    ·exact .inr ⟨.inr h1.1,h1.2⟩
   ·rintro (h1 | ⟨h1 | h1,h2⟩)
    ·exact .inl (.inl h1)
    ·exact .inl (.inr ⟨h1,h2⟩)
    ·exact .inr ⟨h1,h2⟩
  ·rintro F Y ⟨g0,g3,g17,g18,g19,g5,g24,g25,g26,s1,es,get,hb,hsm,hmk⟩;rw[ak (OF _)]at hmk;have hlt2:=dZ (bl r.outs.length);rw[aG];simp only[KP,↓reduceIte,reduceEqDiff,reduceLT,g19,g25,g26,hlt2,hadd];exact next _ _ (iT (by simp +decide only[GS,g0,g3,g17,g18,aj]) ⟨es,get,hb,hsm,hmk.congr λk n=>(Mv hr k n).symm⟩)
 ·rintro F Y ⟨g0,g3,g17,g18,g19,es,get,hb,hsm,hmk⟩;rw[ak (OF _)]at hmk;have hlt:=dZ (bl rs.length);rw[aG];simp only[KP,↓reduceIte,reduceLT,g18,g19,hlt];exact hk _ _ es get (by simp +decide only[GS,g0]) (by simp +decide only[GS,g3]) hb hsm hmk
end
end
section
section
variable {E:Env}{Z:Sg}{K:V->Sg->Prop}
theorem OL.keep {Z Y:Sg}{v:V}{l:List bC}(h:OL Z v l) (k:∀(c:Nat) (o:O),aQ v=some c->Z[c]?=some o->Y[c]?=some o):OL Y v l:=by
 rcases h with h | ⟨b,cs,ex,rfl,hb,ht⟩
 ·exact .inl h
 ·exact .inr ⟨b,cs,ex,rfl,k b _ rfl hb,ht⟩
theorem OL.ok {Z:Sg}{v:V}{l:List bC}(h:OL Z v l):fB v=true:=by
 rcases h with⟨rfl,-⟩ | ⟨b,cs,ex,rfl,-⟩ <;> rfl
def UN (v:V) (l:List bC):Prop:=(v=.aF/\l=[])\/∃full,v=.bS false (l.map λs=>[V.str s]) full
theorem pN:∀l:List bC,Ax.rows 1 l.length (l.map V.str)=l.map λs=>[V.str s]
 | []=>rfl
 |s::l=>by
  rw[af,bh,Ax.rows,bh];exact au _ (pN l)
theorem OL.snap (h:bE E) {Z:Sg}{v:V}{l:List bC}{m:Nat}(ho:OL Z v l):∃v',bG Z E.ty false (m+2) v=some v'/\UN v' l:=by
 rcases ho with⟨rfl,rfl⟩ | ⟨b,cs,ex,rfl,hb,ht⟩
 ·exact⟨.aF,rfl,.inl ⟨rfl,rfl⟩⟩
 ·have hle:l.length<=cs.length:=by
   have:=au List.length ht;rw[bw,bj]at this;omega
  have ht1:cs.take (l.length*1)=l.map V.str:=by rw[po];exact ht
  obtain⟨full,e⟩:=HC (g:=false) (n:=l.length) (m:=m) hb h.dG (show l.length*1<=_ by omega) (λc hcm=>by
   rw[show cs.take (l.length*1)=l.map V.str from ht1]at hcm;obtain⟨s,-,rfl⟩:=cv.1 hcm;exact⟨rfl,rfl⟩)
  refine⟨_,e,.inr ⟨full,?_⟩⟩;show V.bS false (Ax.rows 1 l.length (cs.take (l.length*1))) full=_;rw[ht1,pN]
theorem UN.tag {v:V}{l:List bC}(h:UN v l):cL false v=true:=by
 rcases h with⟨rfl,-⟩ | ⟨full,rfl⟩ <;> rfl
def Ea (Y:Sg) (N:aD->bC->Prop) (es:List (V × V)) (rs:List aD):Prop:=eJ (λe r=>e.1=V.str r.name/\∃l,OL Y e.2 l/\l.length<=1000000/\∀x,x∈l ↔ N r x) es rs
def B4 (N:aD->bC->Prop) (es:List (V × V)) (rs:List aD):Prop:=eJ (λe r=>e.1=V.str r.name/\∃l,UN e.2 l/\l.length<=1000000/\∀x,x∈l ↔ N r x) es rs
theorem Ea.keep {Z Y:Sg}{N:aD->bC->Prop}{mA:Nat}{em:List (V × V)}{es:List (V × V)}{rs:List aD}(h:Ea Z N es rs)(hm:Z[mA]?=some (.map em)) (k:∀(c:Nat) (o:O),Z[c]?=some o->c≠mA->Y[c]?=some o):Ea Y N es rs:=by
 refine eJ.imp h λe r ⟨h1,l,h2,h3⟩=>⟨h1,l,h2.keep λc o hc ho=>k c o ho ?_,h3⟩;rintro rfl;rcases h2 with⟨e0,-⟩ | ⟨b,cs,ex,e0,hb,-⟩
 ·rw[e0]at hc;cases hc
 ·rw[e0]at hc;cases hc;rw[hm]at hb;cases hb
theorem C3 (h:bE E) {k:bC}{v:V}:∀{es:List (V × V)},(∀e∈es,∃q,e.1=V.str q/\q≠k)->kN (dF E 9) (.str k) v es=some (es++[(.str k,v)])
 | [],_=>rfl
 |(k0,v0)::es,hs=>by
  obtain⟨q,e1,hq⟩:=hs _ (IN ..);dsimp only at e1;subst e1;rw[kN,cC h,gL (jy hq)];simp only[C3 h λe he=>hs e (ae _ he)];rfl
theorem RL (h:bE E) {Y:Sg}{b:Nat}{N:aD->bC->Prop}{es:List (V × V)}{rs:List aD}{r:aD}{v:V}{l:List bC}(hb:Y[b]?=some (.map es))(ha:Ea Y N es rs)(hn:∀q∈rs,q.name≠r.name)(hv:OL Y v l)(hl:l.length<=1000000)(hm:∀x,x∈l ↔ N r x) :
  mapUpdate E Y 107 (.mp b) (.str r.name) v=some (Y.set b (.map (es++[(.str r.name,v)])))/\Ea (Y.set b (.map (es++[(.str r.name,v)]))) N (es++[(.str r.name,v)]) (rs++[r]):=by
 have hk:eF E 9 (.str r.name)=true:=by unfold eF;rw[h.dG]
 have hp:=C3 (v:=v) (k:=r.name) h (es:=es) λe he=>by
  obtain⟨q,hq,h1,-⟩:=eJ.mem ha he;exact⟨q.name,h1,hn q hq⟩
 have hkeep:∀(c:Nat) (o:O),Y[c]?=some o->c≠b->(Y.set b (.map (es++[(.str r.name,v)])))[c]?=some o:=λc o hc hcb=>by
  rw[No (jy hcb)];exact hc
 refine⟨?_,?_⟩
 ·unfold Ax.mapUpdate;simp only[h.XG,hk,hb,hp,hv.ok,dj,je,ah,ay,cg]
 ·refine eJ.append (ha.keep hb hkeep) (.cons ⟨rfl,l,hv.keep λc o hc ho=>hkeep c o ho ?_,hl,hm⟩ .nil);rintro rfl;rcases hv with⟨e0,-⟩ | ⟨b',cs,ex,e0,hb',-⟩
  ·rw[e0]at hc;cases hc
  ·rw[e0]at hc;cases hc;rw[hb]at hb';cases hb'
theorem O2 (h:bE E) {Y:Sg}{b:Nat}{N:aD->bC->Prop}{es:List (V × V)}{rs:List aD}(hb:Y[b]?=some (.map es))(ha:Ea Y N es rs):∃es',cG Y E.ty false (.mp b)=some (.imp false es')/\B4 N es' rs:=by
 have key:∀{es:List (V × V)}{rs:List aD},Ea Y N es rs->∃es',aX (λ(e:V × V)=>if e.1.cells.all Ax.plainCell then (match e.2 with
   | .agg cs=>match aX (λv=>match bG Y E.ty false 11 v with
     |some v=>if cL false v then some v else Ax.no "snap: borrowed"
     |none=>none) cs with
    |some cs=>some (e.1,V.agg cs)
    |none=>none
   |v=>match (match bG Y E.ty false 11 v with
     |some v=>if cL false v then some v else Ax.no "snap: borrowed"
     |none=>none) with
    |some v=>some (e.1,v)
    |none=>none) else none) es=some es'/\B4 N es' rs:=by
  intro es rs ha
  induction ha with
  |nil=>exact⟨[],rfl,.nil⟩
  | @cons e r es rs h1 _ ih=>
   obtain⟨es',e1,a1⟩:=ih;obtain⟨a,v⟩:=e;obtain⟨h2,l,h3,h4,h5⟩:=h1;dsimp only at h2 h3;subst h2;obtain⟨v',e2,sv⟩:=h3.snap (m:=9) h;refine⟨(.str r.name,v')::es',?_,.cons ⟨rfl,l,sv,h4,h5⟩ a1⟩;rw[aX];have hpc:(V.str r.name).cells.all Ax.plainCell=true:=rfl;have ht:=sv.tag;rcases h3 with⟨rfl,-⟩ | ⟨b',cs,ex,rfl,-⟩
   ·simp only[hpc,bf,e2,ht,e1]
   ·simp only[hpc,bf,e2,ht,e1]
 obtain⟨es',e1,a1⟩:=key ha;refine⟨es',?_,a1⟩
 have e:bG Y E.ty false 12 (.mp b)=some (.imp false es'):=by
  rw[bG];simp only[hb]
  exact au (λo=>match o with
   |some l=>some (V.imp false l)
   |none=>none) e1
 show aU.one Y E.ty false (.mp b)=_;unfold aU.one;rw[show dL=12 from rfl,e];rfl
end
end
section
section
variable {E:Env}{Z:Sg}{K:V->Sg->Prop}
theorem VY (h:bE E) {τ0 Y:Sg}{w p1 p2 p3 p4:V}{l:List bC}{r:aD}{y mA:Nat}{es:List (V × V)}{N:aD->bC->Prop}{rs:List aD} (ow:bB aO 9 Y w l)(hl:l.length<=1000000) (kp:Kp τ0 Y) (fr:∀b,aQ w=some b->τ0.length<=b)(hy:τ0[y]?=some (O.cells 46 [.str r.name,p1,p2,p3,p4] true))(hA:τ0[mA]?=some (.map es))(ha:Ea τ0 N es rs)(hn:∀q∈rs,q.name≠r.name)(hm:∀x,x∈l ↔ N r x)
  (F:FT) (g8:F.get 8=.mp mA) (g10:F.get 10=.ref y 0) (g11:F.get 11=w) {st:List kH}{Q:Ax.X->Fr->Sg->Prop}
  (hk:∀F' τ' es',(∀k,k∈[0,3,8,37,38,39]->F'.get k=F.get k)->τ'[mA]?=some (.map es')->Ea τ' N es' (rs++[r])->(∀(c:Nat) (o:O),τ0[c]?=some o->c≠mA->τ'[c]?=some o)->M E st .normal ⟨74,F'⟩ τ' Q):R E (.region 24 (opsOf (cutAt [1,1,1,1,0,1,2,2,1,1,0,2,1,1,1,1] (aA Tryz.f158).code)) true) st ⟨74,F⟩ Y Q:=by
 obtain⟨n,v,τ1,hcall,⟨l',ol,hle,hmem⟩,hbk,sp,hlen⟩:=N7 h ow hl;have kp1:Kp τ0 τ1:=λc o hc=>sp c o (kp c o hc) λe=>absurd (AI.1 hc).1 (by have:=fr c e;omega);have hy0:=kp _ _ hy;have hy1:=kp1 _ _ hy;have hA1:=kp1 _ _ hA;obtain⟨hu,ha2⟩:=RL h hA1 (ha.keep hA λc o hc _=>kp1 c o hc) hn ol (by omega) (λx=>(hmem x).trans (hm x));have vs:=Be 11 r.name
 have key:∃F',cO E (ev E n) (opsOf (cutAt [1,1,1,1,0,1,2,2,1,1,0,2,1,1,1,1] (aA Tryz.f158).code)) ⟨74,F⟩ Y=some (⟨74,F'⟩,τ1.set mA (.map (es++[(.str r.name,v)])))/\(∀k,k∈[0,3,8,37,38,39]->F'.get k=F.get k):=by
  unfold cO;rw[h.RB,h.Sk];simp only[aA,Tryz.f158,KP,Ax.loadAt,↓reduceIte,reduceEqDiff,reduceLT,reduceAdd,reduceCtorEq,h.dG,h.bM,opsOf,cutAt,iL,bL,cA,kY,Ax.comp,Ax.last,iN,Ax.again,aS,g8,g10,g11,hy0,hy1,hcall,hu,vs];refine⟨_,rfl,λk hk=>?_⟩;simp only[IT,cr,fu]at hk;rcases hk with rfl | rfl | rfl | rfl | rfl | rfl <;> simp +decide only[GS]
 obtain⟨F',hD,h1⟩:=key;refine Eq.mpr (i_ hD) (hk F' _ _ h1 (by rw[bt (AI.1 hA1).1]) ha2 λc o hc hcm=>?_);rw[No (jy hcm)];exact kp1 c o hc
end
end
section
section
variable {E:Env}{Z:Sg}{K:V->Sg->Prop}
def Nx (rs:List aD) (r:aD) (x:bC):Prop:=x∈r.after\/∃f∈r.ins,Mk rs f x
structure FN (rs:List aD):Prop where
 names:∀r∈rs,r.name.length<=40
 Xl:∀r∈rs,∀s∈r.after,s.length<=40
 nodup:∀(i j:Nat) (p q:aD),rs[i]?=some p->rs[j]?=some q->p.name=q.name->i=j
 jP:∀f n m,Mk rs f n->Mk rs f m->n=m
theorem Mk.short {rs:List aD}(h:FN rs) {f n:bC}(hm:Mk rs f n):n.length<=40:=by
 obtain⟨r,hr,-,rfl⟩:=hm;exact h.names r hr
theorem Zi (h:bE E) {a:V}{rs:List aD} (ia:IS dN a rs)(hs:∀x∈rs,Small x)(hsh:FN rs)(hl:rs.length<=1000) {Y:Sg}{es0:List (V × V)}{get:bC->Option V}(h0:Y[0]?=some (.map es0))(hsm:SM E es0 get)(hmk:MK get (Mk rs)) (F:FT) (g0:F.get 0=a) (g3:F.get 3=.mp 0) :
  R E (cutAt [1,1,1] (aA Tryz.f158).code) [] ⟨74,F⟩ Y (nL E (aA Tryz.f158).results (λv σ1=>match cG σ1 E.ty false v with
   |some v=>∃es,v=.imp false es/\B4 (Nx rs) es rs
   |none=>False)):=by
 have la:=dA h ia;have rest:=λ{τ0 Y w p1 p2 p3 p4 l r y mA es rs'} ow hl' kp fr hy hA ha hn hm F g8 g10 g11 st Q hk=>VY (τ0:=τ0) (Y:=Y) (w:=w) (p1:=p1) (p2:=p2) (p3:=p3) (p4:=p4) (l:=l) (r:=r) (y:=y) (mA:=mA) (es:=es) (N:=Nx rs) (rs:=rs') h ow hl' kp fr hy hA ha hn hm F g8 g10 g11 (st:=st) (Q:=Q) hk;simp only[aA,Tryz.f158,KP,↓reduceIte,reduceLT,reduceCtorEq,cutAt,g0,la];have hA0:(Y++[O.map []])[Y.length]?=some (.map []):=aL;have h00:=aJ (x:=O.map []) h0;have hmA:Y.length≠0:=by have:=(AI.1 h0).1;omega
 generalize Y++[O.map []]=τ1 at *;generalize Y.length=mA at *;refine aV (λi F Y=>F.get 0=a/\F.get 3=.mp 0/\F.get 8=.mp mA/\F.get 37=a/\F.get 38=.int .i64 (rs.length:Int)/\F.get 39=.int .i64 (i:Int)/\Y[0]?=some (.map es0)/\∃es,Y[mA]?=some (.map es)/\Ea Y (Nx rs) es (rs.take i)) rs.length ?_ ?_ rs.length 0 _ _ (by omega) (Ab (by simp +decide only[GS,g0,g3,aj]) ⟨h00,[],hA0,.nil⟩)
 ·rintro i F Y hi ⟨g0,g3,g8,g37,g38,g39,h0,es,hA,ha⟩ next
  obtain⟨r,hr⟩:∃y,rs[i]?=some y:=⟨_,AT hi⟩;have hrm:=ag hr;obtain⟨g,p1,p2,p3,p4,e1,i1,i2,i3,i4⟩:=fL h ia hr;have hsr:=hs r hrm;have a1:=hsr.ins;have a3:=hsr.after;have o1:=aP i1.bD;have o2:=aP i2.bD;have o3:=aP i3.bD;have o4:=aP i4.bD;have hlt:=dP hi;have hadd:=bW i (by omega);have li:=bP h i1
  have hnn:∀q∈rs.take i,q.name≠r.name:=λq hq e=>by
   obtain⟨j,hj⟩:=gv.1 hq;have hji:j<i:=by have:=(AI.1 hj).1;rw[bw]at this;omega
   rw[gh hji]at hj;have:=hsh.nodup j i q r hj hr e;omega
  have hb1:=aJ (x:=O.cells 46 [.str r.name,p1,p2,p3,p4] true) h0;have hA1:=aJ (x:=O.cells 46 [.str r.name,p1,p2,p3,p4] true) hA;have ha1:Ea (Y++[O.cells 46 [.str r.name,p1,p2,p3,p4] true]) (Nx rs) es (rs.take i):=ha.keep hA λc o hc _=>aJ hc;have s1:(Y++[O.cells 46 [.str r.name,p1,p2,p3,p4] true])[Y.length]?=some (O.cells 46 [.str r.name,p1,p2,p3,p4] true):=aL;rw[aG];simp only[KP,Ax.loadAt,Ax.storeAt,↓reduceIte,reduceEqDiff,reduceLT,reduceAdd,reduceCtorEq,h.a_,h.bM,g37,g38,g39,hlt,e1,o1,o2,o3,o4,aL,bR];generalize Y++[O.cells 46 [.str r.name,p1,p2,p3,p4] true]=τ1 at *;generalize Y.length=y at *;refine aN (tT h i3 (by omega)) ?_;rintro w0 τ2 ⟨ow0,kp0,fr0⟩;have s2:=kp0 _ _ s1;simp only[KP,Ax.loadAt,↓reduceIte,reduceEqDiff,reduceLT,reduceCtorEq,h.a_,h.bM,s2,li];refine aV (λj F Y=>F.get 0=a/\F.get 3=.mp 0/\F.get 8=.mp mA/\F.get 37=a/\F.get 38=.int .i64 (rs.length:Int)/\F.get 39=.int .i64 (i:Int)/\F.get 10=.ref y 0/\F.get 47=p1/\F.get 48=.int .i64 (r.ins.length:Int)/\F.get 49=.int .i64 (j:Int)/\Kp τ1 Y/\∃w cur,F.get 11=w/\bB aO 9 Y w cur/\(∀b,aQ w=some b->τ1.length<=b)/\cur.length<=r.after.length+j/\(∀x∈cur,x.length<=40)/\∀x,x∈cur ↔ x∈r.after\/∃f∈r.ins.take j,Mk rs f x) r.ins.length ?_ ?_ r.ins.length 0 _ _ (by omega) (Kv (by simp +decide only[GS,g0,g3,g8,g37,g38,g39,aj]) ⟨kp0,w0,r.after,(by simp +decide only[GS]),ow0,fr0,OF _,hsh.Xl r hrm,λx=>by simp⟩)
  ·rintro j F Y hj ⟨g0,g3,g8,g37,g38,g39,g10,g47,g48,g49,kp,w,cur,g11,ow,fr,hcl,hc40,hmem⟩ next2;obtain⟨s,hsj⟩:∃y,r.ins[j]?=some y:=⟨_,AT hj⟩;obtain⟨g',e2⟩:=gP h i1 hsj;have hlt2:=dP hj;have hadd2:=bW j (by omega);have hb2:=kp _ _ hb1;have hlk:=SA (Z:=Y) (x:=.mp 0) h (by unfold entriesOf;simp only[hb2]) hsm s
   have hex:∀x,(∃f∈r.ins.take (j+1),Mk rs f x) ↔ (∃f∈r.ins.take j,Mk rs f x)\/Mk rs s x:=λx=>by
    constructor
    ·rintro⟨f,hf,hm⟩;rcases (fZ hsj f).1 hf with hf | rfl
     ·exact .inl ⟨f,hf,hm⟩
     ·exact .inr hm
    ·rintro (⟨f,hf,hm⟩ | hm)
     ·exact⟨f,(fZ hsj f).2 (.inl hf),hm⟩
     ·exact⟨s,(fZ hsj s).2 (.inr rfl),hm⟩
   rw[aG];rcases hmk s with⟨hg,hno⟩ | ⟨n,hP,hg⟩
   ·rw[hg]at hlk;simp only[KP,Ax.loadAt,↓reduceIte,reduceEqDiff,reduceLT,h.dG,g3,g47,g48,g49,hlt2,e2,hlk,hadd2];refine next2 _ _ (Kv (by simp +decide only[GS,g0,g3,g8,g37,g38,g39,g10,g47,g48,aj]) ⟨kp,w,cur,(by simp +decide only[GS,g11]),ow,fr,by omega,hc40,λx=>?_⟩);rw[hmem,hex];exact⟨λh=>h.elim .inl λg=>.inr (.inl g),λh=>h.elim .inl λg=>.inr (g.elim id λg=>absurd g (hno x))⟩
   ·rw[hg]at hlk;obtain⟨w',τ',hap,ow',sp',hln',fr'⟩:=kP (ats:=#[24,24]) (m:=[n]) (new:=[[.str n]]) h.a_ rfl h.dG rfl (by decide) (jZ h) rfl (ow.app [.cells 9 [.str n] true]) (lW rfl) (.one rfl) (dQ (b:=1000) (by decide) (by simp only[af,b9];omega));simp only[KP,Ax.loadAt,↓reduceIte,reduceEqDiff,reduceLT,reduceLeDiff,reduceMul,h.dG,h.a_,g3,g11,g47,g48,g49,hlt2,e2,hlk,lD,hap,hadd2];refine next2 _ _ (Kv (by simp +decide only[GS,g0,g3,g8,g37,g38,g39,g10,g47,g48,aj]) ⟨λc o hc=>sp' c o (aJ (kp c o hc)) λe=>absurd (AI.1 hc).1 (by have:=fr c e;omega),w',cur++[n],(by simp +decide only[GS]),ow',λb hb=>?_,by rw[By,dm];omega,λx hx=>?_,λx=>?_⟩)
    ·rcases fr' b hb with g | g
     ·exact fr b g
     ·have h1:=(AI.1 (kp _ _ s1)).1
      have h2:τ1.length<=Y.length:=by
       refine pn λhlt=>?_;obtain⟨o,ho⟩:∃o,τ1[Y.length]?=some o:=⟨_,AT hlt⟩;exact absurd (AI.1 (kp _ _ ho)).1 (bl _)
      simp only[By,af,b9]at g;omega
    ·rcases cq.1 hx with hx | hx
     ·exact hc40 x hx
     ·rw[cn.1 hx];exact hP.short hsh
    ·rw[cq,hmem,hex,cn];constructor
     ·rintro ((h1 | h1) | rfl)
      ·exact .inl h1
      ·exact .inr (.inl h1)
      ·exact .inr (.inr hP)
     ·rintro (h1 | h1 | h1)
      ·exact .inl (.inl h1)
      ·exact .inl (.inr h1)
      ·exact .inr (hsh.jP s x n h1 hP)
  ·rintro F Y ⟨g0,g3,g8,g37,g38,g39,g10,g47,g48,g49,kp,w,cur,g11,ow,fr,hcl,hc40,hmem⟩;rw[ak (OF _)]at hmem;have hlt2:=dZ (bl r.ins.length);obtain⟨τ3,cur',hS,hperm,ow3,RA,hln3⟩:=Fm ow (by omega) (λx hx=>by have:=hc40 x hx;omega);have ks:=dD (λK=>show aB E 79 [w] Y K=K (.fM []) τ3 by rw[l_ h.Qj,hS];rfl);have kp3:Kp τ1 τ3:=λc o hc=>RA c o (kp c o hc) λe=>absurd (AI.1 hc).1 (by have:=fr c e;omega);rw[aG];simp only[KP,↓reduceIte,reduceEqDiff,reduceLT,g11,g48,g49,hlt2,ks];refine rest (rs':=rs.take i) ow3 (by rw[hperm.length_eq];omega) kp3 fr s1 hA1 ha1 hnn (λx=>?_) _ ?_ ?_ ?_ _ _ ?_
   ·rw[hperm.mem_iff,hmem];exact qj
   ·exact (by simp +decide only[GS,g8])
   ·exact (by simp +decide only[GS,g10])
   ·exact (by simp +decide only[GS,g11])
   intro F' τ' es' hF hA' ha' hk';have q0:F'.get 0=a:=(hF 0 (by simp)).trans (by simp +decide only[GS,g0]);have q3:F'.get 3=.mp 0:=(hF 3 (by simp)).trans (by simp +decide only[GS,g3]);have q8:F'.get 8=.mp mA:=(hF 8 (by simp)).trans (by simp +decide only[GS,g8]);have q37:F'.get 37=a:=(hF 37 (by simp)).trans (by simp +decide only[GS,g37]);have q38:F'.get 38=.int .i64 (rs.length:Int):=(hF 38 (by simp)).trans (by simp +decide only[GS,g38]);have q39:F'.get 39=.int .i64 (i:Int):=(hF 39 (by simp)).trans (by simp +decide only[GS,g39]);simp only[KP,↓reduceIte,reduceLT,q39,hadd];refine next _ _ (Ab (by simp +decide only[GS,q0,q3,q8,q37,q38,aj]) ⟨hk' 0 _ hb1 (jy hmA),es',hA',?_⟩)
   rw[ek,hr];exact ha'
 ·rintro F Y ⟨g0,g3,g8,g37,g38,g39,h0,es,hA,ha⟩;rw[ak (OF _)]at ha;obtain⟨es',e1,a1⟩:=O2 h hA ha;have hlt:=dZ (bl rs.length);rw[aG];simp only[KP,↓reduceIte,reduceEqDiff,reduceLT,g8,g38,g39,hlt,e1];exact⟨es',rfl,a1⟩
theorem T0 (h:bE E) {a:V}{rs:List aD}(ha:LS dN 46 Z a rs)(hs:∀x∈rs,Small x)(hsh:FN rs)(hl:rs.length<=1000):aB E 158 [a] Z λv σ'=>σ'=Z/\∃es,v=.imp false es/\B4 (Nx rs) es rs:=by
 obtain⟨a',ea,ia⟩:=fE h ha;rw[aI h.aaE h.Yd h.abv h.ZI (args':=[a']) (by simp only[aX,ea]),aW (by kernel_rfl)];have key:=λY es0 get h0 hsm hmk F g0 g3=>Zi (Y:=Y) (es0:=es0) (get:=get) h ia hs hsh hl h0 hsm hmk F g0 g3
 have k2:=λF g0 g3 hk=>Zj (K:=λv σ1=>match cG σ1 E.ty false v with
   |some v=>∃es,v=.imp false es/\B4 (Nx rs) es rs
   |none=>False) h ia hs (by omega) F g0 g3 hk
 rw[show (aA Tryz.f158).code=.seq (cutAt [0] (aA Tryz.f158).code) (.seq (cutAt [1,0] (aA Tryz.f158).code) (cutAt [1,1] (aA Tryz.f158).code)) from rfl];generalize cutAt [1,1] (aA Tryz.f158).code=C at k2 ⊢;simp only[aA,Tryz.f158,KP,↓reduceIte,reduceLT,cutAt];refine k2 _ ?_ ?_ λF' Y es get g0 g3 hb hsm hmk=>key Y es get hb hsm hmk F' g0 g3
 ·exact (by simp +decide only[GS])
 ·exact (by simp +decide only[GS])
end
end
section
section
variable {E:Env}{Z:Sg}{K:V->Sg->Prop}
theorem B4.back {N:aD->bC->Prop}:∀{es:List (V × V)}{rs:List aD},B4 N es rs->oI es=true/\es.map ks=rs.map aD.name/\es.length=rs.length
 |_,_,.nil=>⟨rfl,rfl,rfl⟩
 |(a,v)::es,r::rs,.cons h t=>by
  obtain⟨h1,l,h2,h3,-⟩:=h;obtain⟨i1,i2,i3⟩:=B4.back (N:=N) t;dsimp only at h1 h2;subst h1;refine⟨?_,?_,by rw[af,af,i3]⟩
  ·have hr:∀l:List bC,vY (l.map λs=>[V.str s])=true:=λl=>by
    induction l with
    |nil=>rfl
    |cons s l ih=>rw[bh,vY];exact ih
   rcases h2 with⟨rfl,-⟩ | ⟨full,rfl⟩
   ·rw[oI];exact i1
   ·rw[oI,hr,bj,kg h3];exact i1
  ·rw[bh,bh,i2];rfl
theorem Bl:∀l:List bC,nO (l.map λs=>[V.str s])=l
 | []=>rfl
 |s::l=>by rw[bh,nO,Bl l]
theorem UN.list {v:V}{l:List bC}(h:UN v l):iR v=l:=by
 rcases h with⟨rfl,rfl⟩ | ⟨full,rfl⟩
 ·rfl
 ·exact Bl l
theorem zG:∀{es:List (V × V)},jF es->(es.map ks).Nodup->gQ es=true
 | [],_,_=>rfl
 |e::es,ha,hn=>by
  obtain⟨k,hk⟩:=ha _ (IN ..);obtain⟨a,v⟩:=e;dsimp only at hk;subst hk;rw[bh,dn]at hn
  have hh:∀{l:List (V × V)},jF l->k ∉ l.map ks->gQ.hasKey k l=false:=by
   intro l
   induction l with
   |nil=>intro _ _;rfl
   |cons e l ih=>
    intro ha hk;obtain⟨q,hq⟩:=ha _ (IN ..);obtain⟨b,u⟩:=e;dsimp only at hq;subst hq;rw[bh,IT,qm]at hk;rw[gQ.hasKey,show Ax.seq q k=false from kL.2 (λe=>hk.1 e.symm)];exact ih (λe he=>ha e (ae _ he)) hk.2
  rw[gQ,hh (λe he=>ha e (ae _ he)) hn.1];exact zG (λe he=>ha e (ae _ he)) hn.2
structure NM (rs:List aD) (es:List (V × V)):Prop where
 ok:oI es=true
 keys:es.map ks=rs.map aD.name
 nodup:(es.map ks).Nodup
 nd:gQ es=true
 len:es.length=rs.length
 next:∀r∈rs,∀x,x∈b_ es r.name ↔ Nx rs r x
theorem B4.mem {N:aD->bC->Prop}:∀{es:List (V × V)}{rs:List aD},B4 N es rs->∀r∈rs,∃v l,(V.str r.name,v)∈es/\UN v l/\∀x,x∈l ↔ N r x
 |_,_,.nil,r,hr=>by cases hr
 |(a,v)::es,q::rs,.cons h t,r,hr=>by
  rcases IT.1 hr with rfl | hr
  ·obtain⟨h1,l,h2,h3,h4⟩:=h;dsimp only at h1;subst h1;exact⟨v,l,IN ..,h2,h4⟩
  ·obtain⟨v',l,h1,h2,h3⟩:=B4.mem (N:=N) t r hr;exact⟨v',l,ae _ h1,h2,h3⟩
theorem vB:∀{rs:List aD},(∀(i j:Nat) (p q:aD),rs[i]?=some p->rs[j]?=some q->p.name=q.name->i=j)->(rs.map aD.name).Nodup
 | [],_=>List.Pairwise.nil
 |r::rs,h=>by
  rw[bh,dn]
  refine⟨λhm=>?_,vB λi j p q hp hq e=>by
   have:=h (i+1) (j+1) p q hp hq e;omega⟩
  obtain⟨q,hq,e⟩:=cv.1 hm;obtain⟨j,hj⟩:=gv.1 hq;have:=h 0 (j+1) r q rfl hj e.symm;omega
theorem Zh {rs:List aD}{es:List (V × V)}(hsh:FN rs)(h:B4 (Nx rs) es rs):NM rs es:=by
 obtain⟨h1,h2,h3⟩:=h.back;have hn:(es.map ks).Nodup:=by rw[h2];exact vB hsh.nodup
 have hb:=yA h1;refine⟨h1,h2,hn,zG (λe he=>(hb e he).1) hn,h3,λr hr x=>?_⟩;obtain⟨v,l,hm,hv,hx⟩:=h.mem r hr;rw[xR hb hn hm,hv.list];exact hx x
theorem BH {L:List (List (List Nat))}:∀{l:List (List Nat)},iV L l=none ↔ ∀a∈l,fW a L=none
 | []=>⟨λ_ a h=>(by cases h),λ_=>rfl⟩
 |a::l=>by
  rw[iV];have ih:=BH (L:=L) (l:=l);cases hd:fW a L with
  |none=>
   dsimp only;rw[ih];exact⟨λh x hx=>(IT.1 hx).elim (λe=>by rw[e];exact hd) (h x),λh x hx=>h x (ae _ hx)⟩
  |some d=>
   refine⟨λh=>?_,λh=>?_⟩
   ·cases hb:iV L l with
    |none=>rw[hb]at h;cases h
    |some e=>
     rw[hb]at h;dsimp only at h;split at h <;> cases h
   ·have:=h a (IN ..);rw[hd]at this;cases this
theorem EW {es:List (V × V)}(hb:gJ es) {f:List Nat}:∀(k:Nat) (x:List Nat),Ev es f k x->(∀j,j<k->¬ Ev es f j x)->∃ys:List (List Nat),ys.length=k/\ys.Nodup/\(∀y∈ys,y∈es.map ks)/\∀y∈ys,∃j,1<=j/\j<=k/\Ev es f j y/\∀i,i<j->¬ Ev es f i y
 |0,x,_,_=>⟨[],rfl,List.Pairwise.nil,λ_ h=>(by cases h),λ_ h=>(by cases h)⟩
 |k+1,x,.succ (nx:=nx) hx hr,hm=>by
  have hmin:∀j,j<k->¬ Ev es f j nx:=λj hj h=>hm (j+1) (by omega) (.succ hx h);obtain⟨ys,h1,h2,h3,h4⟩:=EW hb k nx hr hmin;refine⟨x::ys,by rw[af,h1],dn.2 ⟨λhxy=>?_,h2⟩,λy hy=>?_,λy hy=>?_⟩
  ·obtain⟨j,j1,j2,j3,j4⟩:=h4 x hxy;exact hm j (by omega) j3
  ·rcases IT.1 hy with rfl | hy
   ·obtain⟨v,hv,-⟩:=C0 hb hx;exact cv.2 ⟨_,hv,rfl⟩
   ·exact h3 y hy
  ·rcases IT.1 hy with rfl | hy
   ·exact⟨k+1,by omega,OF _,.succ hx hr,hm⟩
   ·obtain⟨j,j1,j2,j3⟩:=h4 y hy;exact⟨j,j1,by omega,j3⟩
theorem Pk {es:List (V × V)}(hb:gJ es)(hn:(es.map ks).Nodup) {f x:List Nat}{k:Nat}(h:Ev es f k x):∃d,uE es f x=some d:=by
 have:∃d,Ev es f d x/\∀j,j<d->¬ Ev es f j x:=by
  induction k using Nat.strongRecOn with
  |_ k ih=>
   by_cases hex:∃j,j<k/\Ev es f j x
   ·obtain⟨j,hj,hr⟩:=hex;exact ih j hj hr
   ·exact⟨k,h,λj hj hr=>hex ⟨j,hj,hr⟩⟩
 obtain⟨d,hr,hm⟩:=this;obtain⟨ys,h1,h2,h3,-⟩:=EW hb d x hr hm;have:=AK h2 h3;rw[h1,bj]at this;exact⟨d,(lO hb hn).2 ⟨this,hr,hm⟩⟩
theorem I2 {rs:List aD}{es:List (V × V)}(h:NM rs es) (f:bC):iV (dS es es.length [f]) (b_ es f)≠none ↔ ∃n,Ev es f (n+1) f:=by
 have hb:=yA h.ok;constructor
 ·intro hne
  have hne:∃b,iV (dS es es.length [f]) (b_ es f)=some b:=by
   cases he:iV (dS es es.length [f]) (b_ es f) with
   |none=>exact absurd he hne
   |some b=>exact⟨b,rfl⟩
  obtain⟨b,hbo⟩:=hne;obtain⟨a,ha,hd⟩:=Ad _ _ _ hbo;exact⟨b,.succ ha ((lO hb h.nodup).1 hd).2.1⟩
 ·rintro⟨n,hr⟩ hno;cases hr with
  |succ hx hr=>
   obtain⟨d,hd⟩:=Pk hb h.nodup hr;have:=BH.1 hno _ hx;rw[show fW _ (dS es es.length [f])=some d from hd]at this;cases this
end
end
section
section
variable {E:Env}{Z:Sg}{K:V->Sg->Prop}
theorem iE {α:Type}{p:α->Bool}:∀{l:List α}{k:Nat},bQ p l=some k->∃x,l[k]?=some x/\p x=true
 | [],_,h=>by cases h
 |x::l,k,h=>by
  rw[bQ]at h;by_cases hx:p x=true
  ·rw[az hx]at h;cases h;exact⟨x,rfl,hx⟩
  ·rw[an hx]at h;cases hf:bQ p l with
   |none=>rw[hf]at h;cases h
   |some j=>
    rw[hf]at h;cases h;obtain⟨y,h1,h2⟩:=iE hf;exact⟨y,h1,h2⟩
structure Good (rs:List aD):Prop where
 short:FN rs
 known:∀r∈rs,∀n∈r.after,iP rs n=true
 len:rs.length<=40
 rule:∀r∈rs,bA r=0
theorem LK {s:bC}(h:bI s=true):s.length<=40:=by
 unfold bI at h;simp only[ai,aa]at h;exact h.1.2
theorem tJ {rs:List aD}(h:gO rs=0):Good rs:=by
 unfold gO at h;cases hf:rs.find? (λr=>decide (bA r≠0)) with
 |some r=>
  rw[hf]at h;have:=List.find?_some hf;rw[aa]at this;exact absurd h this
 |none=>
  rw[hf]at h;dsimp only at h
  have hr:∀r∈rs,bA r=0:=λr hr=>by
   have:=me.1 hf r hr;simpa using this
  by_cases h40:40<rs.length
  ·rw[az h40]at h;cases h
  rw[an h40]at h;cases hc:tQ rs with
  |true=>rw[az hc]at h;cases h
  |false=>
  rw[an (by rw[hc];simp)]at h;cases hst:gT rs with
  |true=>rw[az hst]at h;cases h
  |false=>
  have hcl:∀i r,rs[i]?=some r->iP (rs.take i) r.name=false/\r.outs.any (wX (rs.take i))=false:=λi r hi=>by
   have:=mu.1 hc i (kj.2 (AI.1 hi).1);rw[DT hi]at this;simpa using this
  have hform:∀r∈rs,bI r.name=true/\r.after.all bI=true:=λr hm=>by
   have:=hr r hm;unfold bA at this;by_cases hfo:kX r=false
   ·rw[az hfo]at this;cases this
   ·have hfo:kX r=true:=by simpa using hfo
    unfold kX at hfo;simp only[ai]at hfo;exact⟨hfo.1.1.1.1.1,hfo.1.2⟩
  have before:∀(i j:Nat) (p:aD),j<i->rs[j]?=some p->p∈rs.take i:=λi j p hji hj=>ag (by rw[gh hji];exact hj);refine⟨⟨λr hm=>LK (hform r hm).1,λr hm s hs=>LK (ez.1 (hform r hm).2 s hs),?_,?_⟩,λr hm n hn=>?_,by omega,hr⟩
  ·have key:∀(i j:Nat) (p q:aD),j<i->rs[i]?=some p->rs[j]?=some q->p.name≠q.name:=λi j p q hji hp hq e=>by
    have:=(hcl i p hp).1;rw[show iP (rs.take i) p.name=true from fg.2 ⟨q,before i j q hji hq,BY e.symm⟩]at this;cases this
   intro i j p q hp hq e;rcases jz i j with g | g | g
   ·exact absurd e.symm (key j i q p g hq hp)
   ·exact g
   ·exact absurd e (key i j p q g hp hq)
  ·have key:∀(i j:Nat) (p q:aD) (f:bC),j<i->rs[i]?=some p->rs[j]?=some q->f∈p.outs->f∈q.outs->False:=λi j p q f hji hp hq h1 h2=>by
    have:=(hcl i p hp).2;rw[show p.outs.any (wX (rs.take i))=true from fg.2 ⟨f,h1,fg.2 ⟨q,before i j q hji hq,BY h2⟩⟩]at this;cases this
   rintro f n m ⟨p,hp,h1,rfl⟩ ⟨q,hq,h2,rfl⟩;obtain⟨i,hi⟩:=gv.1 hp;obtain⟨j,hj⟩:=gv.1 hq;rcases jz i j with g | g | g
   ·exact (key j i q p f g hj hi h2 h1).elim
   ·subst g;rw[hi]at hj;cases hj;rfl
   ·exact (key i j p q f g hi hj h1 h2).elim
  ·have h1:=mu.1 hst r hm;have h2:(r.after.any λn=>decide (gE rs n=none))=false:=by simpa using h1
   have h3:=mu.1 h2 n hn;rw[uQ]at h3;simpa using h3
theorem C1 {rs:List aD}{es:List (V × V)} (g:Good rs)(h:NM rs es) {i:Nat}{r:aD}(hi:rs[i]?=some r) (x:bC):x∈b_ es r.name ↔ ∃k q,iO rs false i k=true/\rs[k]?=some q/\q.name=x:=by
 have hm:=ag hi;rw[h.next r hm]
 have hd:∀k,iO rs false i k=true ↔ (∃f∈r.ins,fI rs f=some k)\/∃n∈r.after,gE rs n=some k:=λk=>by
  unfold iO wF;rw[hi];simp only[mj,jh,fl,fg,aa]
 constructor
 ·rintro (hx | ⟨f,hf,hmk⟩)
  ·have hk:=g.known r hm x hx;unfold iP at hk;rw[<- cF]at hk;obtain⟨k,hk⟩:=jn.1 hk;obtain⟨q,h1,h2⟩:=iE hk;exact⟨k,q,(hd k).2 (.inr ⟨x,hx,hk⟩),h1,ej h2⟩
  ·obtain⟨p,hp,hfp,rfl⟩:=hmk;obtain⟨k,hk⟩:=oC (p:=λq:aD=>decide (f∈q.outs)) hp (BY hfp);obtain⟨q,h1,h2⟩:=iE hk;exact⟨k,q,(hd k).2 (.inl ⟨f,hf,hk⟩),h1,g.short.jP f _ _ ⟨q,ag h1,ej h2,rfl⟩ ⟨p,hp,hfp,rfl⟩⟩
 ·rintro⟨k,q,hk,hq,rfl⟩;rcases (hd k).1 hk with⟨f,hf,h1⟩ | ⟨n,hn,h1⟩
  ·obtain⟨q',h2,h3⟩:=iE h1;rw[hq]at h2;cases h2;exact .inr ⟨f,hf,q,ag hq,ej h3,rfl⟩
  ·obtain⟨q',h2,h3⟩:=iE h1;rw[hq]at h2;cases h2;rw[ej h3];exact .inl hn
theorem RF {rs:List aD}{es:List (V × V)} (g:Good rs)(h:NM rs es) {i k:Nat}(hw:AxS.Way (iO rs false) i k):∀{p q:aD},rs[i]?=some p->rs[k]?=some q->∃n,Ev es q.name (n+1) p.name:=by
 induction hw with
 |one hm=>
  intro p q hp hq;exact⟨0,.succ ((C1 g h hp _).2 ⟨_,q,hm,hq,rfl⟩) .zero⟩
 | @cons i j k hm _ ih=>
  intro p q hp hq
  have hj:∃s,rs[j]?=some s:=by
   unfold iO at hm;rw[hp]at hm;unfold wF at hm;simp only[fl,ai,fg,aa]at hm;rcases hm with⟨f,-,h1⟩ | ⟨-,n,-,h1⟩
   ·obtain⟨s,h2,-⟩:=iE h1;exact⟨s,h2⟩
   ·obtain⟨s,h2,-⟩:=iE h1;exact⟨s,h2⟩
  obtain⟨s,hs⟩:=hj;obtain⟨n,hr⟩:=ih hs hq;exact⟨n+1,.succ ((C1 g h hp _).2 ⟨j,s,hm,hs,rfl⟩) hr⟩
theorem Pj {es:List (V × V)}{f x:List Nat}(h:Ev es f 0 x):x=f:=by cases h;rfl
theorem Lz {rs:List aD}{es:List (V × V)} (g:Good rs)(h:NM rs es) {k:Nat}{q:aD}(hq:rs[k]?=some q):∀(n i:Nat) (p:aD),rs[i]?=some p->Ev es q.name (n+1) p.name->AxS.Way (iO rs false) i k
 |n,i,p,hp,.succ (nx:=nx) hx hr=>by
  obtain⟨j,s,hm,hs,rfl⟩:=(C1 g h hp _).1 hx;cases n with
  |zero=>
   have e:s.name=q.name:=Pj hr;have:=g.short.nodup j k s q hs hq e;subst this;exact .one hm
  |succ n=>exact .cons hm (Lz g h hq n j s hs hr)
theorem HN {rs:List aD}{es:List (V × V)} (g:Good rs)(h:NM rs es):Ring rs ↔ ∃r∈rs,iV (dS es es.length [r.name]) (b_ es r.name)≠none:=by
 constructor
 ·rintro⟨i,hi,hw⟩;have hr:rs[i]?=some rs[i]:=AT hi;obtain⟨n,hn⟩:=RF g h hw hr hr;exact⟨_,ag hr,(I2 h _).2 ⟨n,hn⟩⟩
 ·rintro⟨r,hr,hb⟩;obtain⟨i,hi⟩:=gv.1 hr;obtain⟨n,hn⟩:=(I2 h _).1 hb;exact⟨i,(AI.1 hi).1,Lz g h hi n i r hi hn⟩
end
end
section
section
variable {E:Env}{Z:Sg}{K:V->Sg->Prop}
theorem NU {rs:List aD}{es:List (V × V)}(h:NM rs es)(hl:rs.length<=1000) (g:Bool) (f:bC):nX [.imp g es,.str f]=some (oJ es f):=by
 show (match oI es,gQ es,Nat.ble es.length 1000000 with
  |true,true,true=>some (oJ es f)
  |_,_,_=>none)=_
 rw[h.ok,h.nd,kg (by rw[h.len];omega)]
theorem D4 (es:List (V × V)) (f:bC):(iV (dS es es.length [f]) (b_ es f)=none/\oJ es f=.aF)\/(iV (dS es es.length [f]) (b_ es f)≠none/\∃l full,oJ es f=.bS false ((f::l).map λs=>[V.str s]) full):=by
 unfold oJ;dsimp only;cases iV (dS es es.length [f]) (b_ es f) with
 |none=>exact .inl ⟨rfl,rfl⟩
 |some b=>exact .inr ⟨by simp,_,_,rfl⟩
theorem Wm (h:bE E) {rs:List aD}{es:List (V × V)}(hn:NM rs es)(hl:rs.length<=1000) (g:Bool) (f:bC):aB E 159 [.imp g es,.str f] Z K=K (oJ es f) Z:=by
 have h5:cG [] E.ty false (oJ es f)=some (oJ es f):=by
  rcases D4 es f with⟨-,e⟩ | ⟨-,l,full,e⟩
  ·rw[e];rfl
  ·rw[e];exact EK rfl rfl
 have hi:Ax.bD (.imp g es)=true:=rfl;exact qL (args':=[.imp g es,.str f]) h.aaD h.Yc (by simp only[aX,dK,cJ hi (bV hi)]) (NU hn hl g f) h5
theorem aco (h:bE E) {rs:List aD}{es:List (V × V)}{g:Bool}(hg:Good rs)(hn:NM rs es) {Y:Sg}{w:V} (ow:bB aO 9 Y w (rs.map aD.name)) (F:FT) (g5:F.get 5=.imp g es) (g6:F.get 6=w) :
  R E (cutAt [1,1,1,1,1] (aA Tryz.f120).code) [] ⟨48,F⟩ Y (nL E (aA Tryz.f120).results (λv σ1=>match cG σ1 E.ty false v with
   |some v=>(v=.aF/\¬ Ring rs)\/∃x l,kI aO v (x::l)/\Ring rs
   |none=>False)):=by
 have h40:=hg.len;have hll:(rs.map aD.name).length<=40:=by rw[bj];omega
 obtain⟨τ3,ns,hS,hperm,ow3,-,-⟩:=Fm ow (by omega) (λx hx=>by
  obtain⟨r,hr,rfl⟩:=cv.1 hx;have:=hg.short.names r hr;omega)
 have ks:=dD (λK=>show aB E 79 [w] Y K=K (.fM []) τ3 by rw[l_ h.Qj,hS];rfl);have hnl:ns.length<=40:=by rw[hperm.length_eq];omega
 have lw:=nD h.a_ rfl ow3.ls;simp only[aA,Tryz.f120,KP,↓reduceIte,reduceEqDiff,reduceLT,cutAt,g6,ks,lw];refine aV (λi F Y=>Y=τ3/\F.get 5=.imp g es/\F.get 35=w/\F.get 36=.int .i64 (ns.length:Int)/\F.get 37=.int .i64 (i:Int)/\∀(j:Nat) (x:bC),j<i->ns[j]?=some x->iV (dS es es.length [x]) (b_ es x)=none) ns.length ?_ ?_ ns.length 0 _ _ (by omega) ⟨rfl,(fK (by simp +decide only[GS,g5,aj]) (λj x hj=>by omega))⟩
 ·rintro i F Y hi ⟨rfl,g5,g35,g36,g37,hp⟩ next
  obtain⟨x,hx⟩:∃y,ns[i]?=some y:=⟨_,AT hi⟩;obtain⟨p,r,e4,e5,-,e6,-⟩:=FG (Z:=Y) h.a_ rfl h.dG rfl ow3.ls hx;have e6:=e6 rfl (by decide);rw[show r=[.str x] from e5]at e6;have e6:loadAt E Y 9 p=some (.str x):=e6;have hlt:=dP hi;have hadd:=bW i (by omega);have kb:=λ(Z:Sg)=>dD (λK=>Wm (Z:=Z) (K:=K) h hn (by omega) g x);have hxm:x∈rs.map aD.name:=hperm.mem_iff.1 (ag hx);obtain⟨q,hq,hqx⟩:=cv.1 hxm;rw[aG];rcases D4 es x with⟨hb,e⟩ | ⟨hb,l,full,e⟩
  ·simp only[KP,↓reduceIte,reduceEqDiff,reduceLT,g5,g35,g36,g37,hlt,e4,e6,kb,e,DK h,hadd];refine next _ _ ⟨rfl,(fK (by simp +decide only[GS,g5,g35,g36,aj]) (λj y hj hy=>?_))⟩
   rcases cj j i with gg | gg
   ·exact hp j y gg hy
   ·obtain rfl:j=i:=by omega
    rw[hx]at hy;cases hy;exact hb
  ·have hsn:∀Z,cG Z E.ty false (.bS false ((x::l).map λs=>[V.str s]) full)=some (.bS false ((x::l).map λs=>[V.str s]) full):=λZ=>EK rfl rfl;simp only[KP,↓reduceIte,reduceEqDiff,reduceLT,reduceCtorEq,g5,g35,g36,g37,hlt,e4,e6,kb,e,DJ h,hsn];exact .inr ⟨x,l,.inr ⟨_,full,rfl,AQ _⟩,(HN hg hn).2 ⟨q,hq,by rw[hqx];exact hb⟩⟩
 ·rintro F Y ⟨rfl,g5,g35,g36,g37,hp⟩;have hlt:=dZ (bl ns.length);rw[aG];simp only[KP,↓reduceIte,reduceLT,g36,g37,hlt];refine .inl ⟨rfl,λhr=>?_⟩;obtain⟨r,hr,hb⟩:=(HN hg hn).1 hr;obtain⟨j,hj⟩:=gv.1 (hperm.mem_iff.2 (cv.2 ⟨r,hr,rfl⟩));exact hb (hp j r.name (AI.1 hj).1 hj)
theorem Q8 (h:bE E) {a:V}{rs:List aD}(ha:LS dN 46 Z a rs)(hs:∀x∈rs,Small x)(hp:gO rs=0):aB E 120 [a] Z λv σ'=>σ'=Z/\((v=.aF/\¬ Ring rs)\/∃x l,kI aO v (x::l)/\Ring rs):=by
 obtain⟨a',ea,ia⟩:=fE h ha;have hg:=tJ hp;have h40:=hg.len;rw[aI h.aaP h.Yo h.abG h.ZT (args':=[a']) (by simp only[aX,ea]),aW (by kernel_rfl)];have la:=dA h ia;have key:=λes g hn Y w ow F g5 g6=>aco (E:=E) (rs:=rs) (es:=es) (g:=g) (Y:=Y) (w:=w) h hg hn ow F g5 g6;rw[show (aA Tryz.f120).code=.seq (cutAt [0] (aA Tryz.f120).code) (.seq (cutAt [1,0] (aA Tryz.f120).code) (.seq (cutAt [1,1,0] (aA Tryz.f120).code) (.seq (cutAt [1,1,1,0] (aA Tryz.f120).code) (.seq (cutAt [1,1,1,1,0] (aA Tryz.f120).code) (cutAt [1,1,1,1,1] (aA Tryz.f120).code))))) from rfl];generalize cutAt [1,1,1,1,1] (aA Tryz.f120).code=C at key ⊢;simp only[aA,Tryz.f120,KP,↓reduceIte,reduceLT,reduceCtorEq,cutAt];refine aN (Mq h (ia.ls _ 46) hs (by omega)) ?_;rintro v σ' ⟨rfl,nm,rfl⟩;rw[hp];simp only[KP,↓reduceIte,reduceEqDiff,reduceLT,reduceCtorEq];refine aN (T0 h (ia.ls _ 46) hs hg.short (by omega)) ?_;rintro v σ' ⟨rfl,es,rfl,hv⟩;have hn:=Zh hg.short hv;simp only[KP,↓reduceIte,reduceLT,reduceCtorEq,la];refine aV (λi F Y=>F.get 5=.imp false es/\F.get 21=a'/\F.get 22=.int .i64 (rs.length:Int)/\F.get 23=.int .i64 (i:Int)/\∃w,F.get 6=w/\bB aO 9 Y w ((rs.take i).map aD.name)) rs.length ?_ ?_ rs.length 0 _ _ (by omega) (fK (by simp +decide only[GS,aj]) ⟨.aF,(by simp +decide only[GS]),.inl ⟨rfl,rfl⟩⟩)
 ·rintro i F Y hi ⟨g5,g21,g22,g23,w,g6,ow⟩ next
  obtain⟨r,hr⟩:∃y,rs[i]?=some y:=⟨_,AT hi⟩;obtain⟨g,p1,p2,p3,p4,e1,i1,i2,i3,i4⟩:=fL h ia hr;have o1:=aP i1.bD;have o2:=aP i2.bD;have o3:=aP i3.bD;have o4:=aP i4.bD;have hlt:=dP hi;have hadd:=bW i (by omega);have s1:(Y++[O.cells 46 [.str r.name,p1,p2,p3,p4] true])[Y.length]?=some (O.cells 46 [.str r.name,p1,p2,p3,p4] true):=aL;have ow1:=ow.app [O.cells 46 [.str r.name,p1,p2,p3,p4] true];rw[aG];simp only[KP,Ax.loadAt,Ax.storeAt,↓reduceIte,reduceEqDiff,reduceLT,reduceLeDiff,reduceAdd,reduceMul,reduceCtorEq,h.dG,h.a_,h.bM,g6,g21,g22,g23,hlt,e1,o1,o2,o3,o4,aL,bR];generalize Y++[O.cells 46 [.str r.name,p1,p2,p3,p4] true]=τ1 at *;generalize Y.length=y at *;obtain⟨w',τ',hap,ow',-,-,-⟩:=kP (ats:=#[24,24]) (m:=[r.name]) (new:=[[.str r.name]]) h.a_ rfl h.dG rfl (by decide) (jZ h) rfl (ow1.app [.cells 9 [.str r.name] true]) (lW rfl) (.one rfl) (dQ (b:=1000) (by decide) (by rw[bj,bw];simp only[af,b9];omega));simp only[KP,↓reduceIte,reduceEqDiff,reduceLT,g23,lD,hap,hadd];refine next _ _ (fK (by simp +decide only[GS,g5,g21,g22,aj]) ⟨w',(by simp +decide only[GS]),?_⟩)
  rw[ek,hr,gp];exact ow'
 ·rintro F Y ⟨g5,g21,g22,g23,w,g6,ow⟩;rw[ak (OF _)]at ow;have hlt:=dZ (bl rs.length);rw[aG];simp only[KP,↓reduceIte,reduceLT,g22,g23,hlt];exact key es false hn _ w ow _ (by simp +decide only[GS,g5]) (by simp +decide only[GS,g6])
theorem Xh (h:bE E) {a:V}{rs:List aD}(ha:LS dN 46 Z a rs)(hs:∀x∈rs,Small x)(hl:rs.length<=4294967296):aB E 68 [a] Z λv σ'=>σ'=Z/\∃e nm,v=.fM [.int .i64 e,.str nm]/\Ji rs e:=by
 obtain⟨a',ea,ia⟩:=fE h ha;rw[aI h.hs68 h.sp68 h.fn68 h.md68 (args':=[a']) (by simp only[aX,ea]),aW (by kernel_rfl)];have d6:=h.ab9;simp only[aA,Tryz.f68,cutAt,aq]at d6;simp only[aA,Tryz.f68,KP,↓reduceIte,reduceLT,reduceCtorEq,lP];refine aN (Mq h (ia.ls _ 46) hs hl) ?_;rintro v σ' ⟨rfl,nm,rfl⟩;by_cases hp:gO rs=0
 case neg=>
  have q:=AS hp;simp only[KP,↓reduceIte,reduceEqDiff,reduceLT,q];exact⟨gO rs,nm,rfl,.inl ⟨hp,rfl⟩⟩
 have q:=BY hp;simp only[KP,↓reduceIte,reduceEqDiff,reduceLT,reduceCtorEq,q];refine aN (Q8 h (ia.ls _ 46) hs hp) ?_;rintro v σ' ⟨rfl,hv⟩;rcases hv with⟨rfl,hr⟩ | ⟨x,l,iv,hr⟩
 ·simp only[KP,↓reduceIte,reduceEqDiff,reduceLT,lP,DK h];exact⟨0,[],rfl,.inr ⟨hp,.inr ⟨hr,rfl⟩⟩⟩
 ·obtain⟨g,e1⟩:=gP h iv.is (i:=0) (x:=x) rfl;have e1:indexAddr E 24 v (.int .i64 0)=some (.cZ g [.str x]):=e1
  have en:mP E 24 true v .aF=some false:=by
   rcases iv with⟨-,e⟩ | ⟨rs',full,rfl,-⟩
   ·cases e
   ·exact DJ h
  simp only[KP,Ax.loadAt,↓reduceIte,reduceEqDiff,reduceLT,h.dG,en,e1,aT d6,bK];exact⟨3,x,rfl,.inr ⟨hp,.inl ⟨hr,rfl⟩⟩⟩
end
end
structure OrE (E:Env):Prop where
 hs23:E.hspec 23=none
 RW:E.spec 23=none
 fn23:E.fn 23=some (aA Tryz.f23)
 md23:E.mode 23=.eS
 hs81:E.hspec 81=none
 sp81:E.spec 81=none
 fn81:E.fn 81=some (aA Tryz.f81)
 md81:E.mode 81=.eS
 hs83:E.hspec 83=none
 sp83:E.spec 83=none
 fn83:E.fn 83=some (aA Tryz.f83)
 md83:E.mode 83=.eS
 hs25:E.hspec 25=none
 RV:E.spec 25=none
 fn25:E.fn 25=some (aA Tryz.f25)
 md25:E.mode 25=.eS
 hs85:E.hspec 85=none
 sp85:E.spec 85=none
 fn85:E.fn 85=some (aA Tryz.f85)
 md85:E.mode 85=.eS
 d23_15:aM E (cutAt [1,1,1,1,1,1,1,0,2,2,1,2,1,0] (aA Tryz.f23).code)=true
section
section
variable {E:Env}{Z:Sg}{K:V->Sg->Prop}
theorem VV {Y:Sg}{w:V}{l:List bC}{k:Nat}{es:List (V × V)}(hb:Y[k]?=some (.map es)) (ow:bB aO 9 Y w l):aQ w≠some k:=by
 rcases ow with⟨rfl,-⟩ | ⟨b,rs,ex,rfl,hc,-⟩
 ·intro e;cases e
 ·intro e;cases e;rw[hb]at hc;cases hc
structure InOrder (rs:List aD) (o:List bC):Prop where
 len:o.length=rs.length
 nodup:o.Nodup
 mem:∀x∈o,x∈rs.map aD.name
 behind:∀(i k:Nat) (p q:aD),rs[i]?=some p->rs[k]?=some q->iO rs false i k=true->∀(j:Nat),o[j]?=some p.name->q.name∈o.take j
structure Ag (E:Env) (Y:Sg) (es:List (V × V)) (p:bC->Bool):Prop where
 b0:Y[0]?=some (.cells 107 [.imp false es] true)
 b2:Y[2]?=some (.cells 109 [.mp 1] true)
 b1:∃e1,Y[1]?=some (.map e1)/\SB E e1 p
theorem Ag.app {Y:Sg}{es:List (V × V)}{p:bC->Bool}(h:Ag E Y es p) (y:O):Ag E (Y++[y]) es p:=by
 obtain⟨e1,h1,h2⟩:=h.b1;exact⟨aJ h.b0,aJ h.b2,e1,aJ h1,h2⟩
theorem Ag.sp {Y τ':Sg}{es:List (V × V)}{p:bC->Bool}{w:V}{l:List bC}(h:Ag E Y es p) (ow:bB aO 9 Y w l) (sp:Sp Y τ' w):Ag E τ' es p:=by
 obtain⟨e1,h1,h2⟩:=h.b1;exact⟨sp _ _ h.b0 (lM h.b0 (by decide) ow),sp _ _ h.b2 (lM h.b2 (by decide) ow),e1,sp _ _ h1 (VV h1 ow),h2⟩
theorem Ag.put {Y:Sg}{es e1:List (V × V)}{p q:bC->Bool}(h:Ag E Y es p)(hs:SB E e1 q):Ag E (Y.set 1 (.map e1)) es q:=by
 obtain⟨e0,h1,-⟩:=h.b1;exact⟨by rw[No (by decide)];exact h.b0,by rw[No (by decide)];exact h.b2,e1,by rw[bt (AI.1 h1).1],hs⟩
end
end
section
section
variable {E:Env}{Z:Sg}{K:V->Sg->Prop}
theorem LD {Z:Sg}{k t:Nat}{cs cs':List V}{ex:Bool}(hb:Z[k]?=some (.cells t cs ex))(hm:aX (λv=>match bG Z E.ty true 11 v with
   |some v=>if cL true v then some v else Ax.no "snap: borrowed"
   |none=>none) cs=some cs'):aU.one Z E.ty true (.ref k 0)=some (.cZ true cs'):=by
 have e:bG Z E.ty true 12 (.ref k 0)=some (.cZ true cs'):=by
  rw[bG];simp only[hb,fc]
  exact au (λo=>match o with
   |some l=>some (V.cZ true l)
   |none=>none) hm
 unfold aU.one;rw[show dL=12 from rfl,e];rfl
end
end
section
structure oF (E:Env):Prop where
 xI:E.ty 98=some { kd:=.map 51 84,size:=1,bytes:=8,zero:=.bX }
 pI:E.ty 100=some { kd:=.jT [(0,96),(1,97),(2,84),(3,98),(4,98)],size:=5,bytes:=40,zero:=.agg [.bX,.bX,.fP,.bX,.bX] }
 Ef:E.ty 27=some { kd:=.ptr 100,size:=1,bytes:=8,zero:=.fP }
 U4:E.ty 96=some { kd:=.map 9 46,size:=1,bytes:=8,zero:=.bX }
 yI:E.ty 147=some { kd:=.jT [(0,98),(1,51),(3,51)],size:=5,bytes:=56,zero:=.agg [.bX,.bool false,.str [],.bool false,.str []] }
 K0:E.ty 148=some { kd:=.sl 147,size:=1,bytes:=24,zero:=.aF }
 hs69:E.hspec 69=none
 sp69:E.spec 69=none
 fn69:E.fn 69=some (aA Tryz.f69)
 md69:E.mode 69=.eS
 aaO:E.hspec 121=none
 Yn:E.spec 121=none
 abF:E.fn 121=some (aA Tryz.f121)
 ZS:E.mode 121=.shared
 hs13:E.hspec 13=none
 OU:E.spec 13=none
 fn13:E.fn 13=some (aA Tryz.f13)
 md13:E.mode 13=.eS
 hs72:E.hspec 72=none
 sp72:E.spec 72=none
 fn72:E.fn 72=some (aA Tryz.f72)
 md72:E.mode 72=.shared
 hs71:E.hspec 71=none
 sp71:E.spec 71=none
 fn71:E.fn 71=some (aA Tryz.f71)
 md71:E.mode 71=.eS
 hs73:E.hspec 73=none
 sp73:E.spec 73=none
 fn73:E.fn 73=some (aA Tryz.f73)
 md73:E.mode 73=.eS
 hs53:E.hspec 53=none
 sp53:E.spec 53=none
 fn53:E.fn 53=some (aA Tryz.f53)
 md53:E.mode 53=.eS
 hs78:E.hspec 78=none
 sp78:E.spec 78=none
 fn78:E.fn 78=some (aA Tryz.f78)
 md78:E.mode 78=.eS
 XA:fJ E (opsOf (cutAt [1,0] (aA Tryz.f69).code))=.no
 Zc:cH E .no (opsOf (cutAt [1,0] (aA Tryz.f69).code))=some [⟨2,4,true,false⟩,  ⟨2,7,true,false⟩,  ⟨2,10,true,false⟩,  ⟨5,7,true,false⟩,  ⟨5,10,true,false⟩,  ⟨8,10,true,false⟩]
 Xz:fJ E (opsOf (cutAt [1,1,0,1,2,2,1,1,0,2,1] (aA Tryz.f69).code))=.no
 Zb:cH E .no (opsOf (cutAt [1,1,0,1,2,2,1,1,0,2,1] (aA Tryz.f69).code))=some [⟨1,12,false,true⟩,  ⟨1,19,false,true⟩,  ⟨4,12,false,true⟩,  ⟨4,19,false,true⟩,  ⟨4,22,false,true⟩,  ⟨12,14,true,false⟩,  ⟨12,18,true,false⟩]
 acn:aM E (cutAt [1,1,1,0,1,2,2,1,1,0,2,1,0] (aA Tryz.f13).code)=true
 XB:fJ E (opsOf (cutAt [1,1,1,0,1,2,2,1,1,0,2,1,1,0] (aA Tryz.f13).code))=.no
 Zd:cH E .no (opsOf (cutAt [1,1,1,0,1,2,2,1,1,0,2,1,1,0] (aA Tryz.f13).code))=some [⟨3,7,false,true⟩]
 WO:aM E (cutAt [1,1,1,0,1,2,2,1,1,0,2,1,1,1,1,1,2,2,1,1,0,2,1,0] (aA Tryz.f13).code)=true
 WN:aM E (cutAt [1,1,1,0,1,2,2,1,1,0,2,1,1,1,1,1,2,2,1,1,0,2,1,1] (aA Tryz.f13).code)=true
 Xy:fJ E (opsOf (cutAt [1,0] (aA Tryz.f72).code))=.no
 Za:cH E .no (opsOf (cutAt [1,0] (aA Tryz.f72).code))=some [⟨3,6,false,true⟩]
 ab7:aM E (cutAt [1,1,0] (aA Tryz.f72).code)=true
 Xx:fJ E (opsOf (cutAt [1,1,1,2,2,1,1,0,2,1,0,1,0] (aA Tryz.f72).code))=.no
 Y_:cH E .no (opsOf (cutAt [1,1,1,2,2,1,1,0,2,1,0,1,0] (aA Tryz.f72).code))=some [⟨1,4,false,true⟩,  ⟨3,4,false,true⟩]
 Xw:fJ E (opsOf (cutAt [1,1,1,2,2,1,1,0,2,1,1] (aA Tryz.f72).code))=.no
 Y9:cH E .no (opsOf (cutAt [1,1,1,2,2,1,1,0,2,1,1] (aA Tryz.f72).code))=some [⟨1,7,false,true⟩,  ⟨3,7,false,true⟩,  ⟨4,7,false,true⟩]
 z78_17:fJ E (opsOf (cutAt [1,1,1,1,0,1,2,2,1,1,0,2,1,1,1,1] (aA Tryz.f78).code))=.no
 p78_17:cH E .no (opsOf (cutAt [1,1,1,1,0,1,2,2,1,1,0,2,1,1,1,1] (aA Tryz.f78).code))=some [⟨2,4,false,true⟩]
section
variable {E:Env}{Z:Sg}{K:V->Sg->Prop}
theorem aB.up {f:Nat}{args:List V}{K:V->Sg->Prop}(h:aB E f args Z K):∃n v σ',K v σ'/\∀m,n<=m->g_ E (ev E m) f args Z=some (v,σ'):=by
 obtain⟨n,v,σ',hc,hk⟩:=h;exact⟨n,v,σ',hk,λm hm=>tR (mO E hm) hc⟩
theorem NB (h:bE E):mP E 44 true .aF .aF=some true:=by unfold mP;rw[h.fS]
theorem NA (h:bE E) {g:Bool}{rs:List (List V)}{f:Bool}:mP E 44 true (.bS g rs f) .aF=some false:=by unfold mP;rw[h.fS]
theorem N8 (h:bE E)(h':oF E) {a:V}{l:List AxS.Step} (ia:IS eZ a l)(hl:l.length<=1000):aB E 121 [a] Z λv σ'=>bB eZ 82 σ' v l/\Kp Z σ'/\∀b,aQ v=some b->Z.length<=b:=by
 rw[cN h'.aaO h'.Yn h'.abF h'.ZS,aW (by kernel_rfl)];rcases ia with⟨rfl,rfl⟩ | ⟨g,rs,full,rfl,ha⟩
 ·simp only[aA,Tryz.f121,KP,↓reduceIte,reduceLT,reduceCtorEq,NB h];exact⟨.inl ⟨rfl,rfl⟩,λ_ _ h=>h,λb hb=>by cases hb⟩
 ·obtain⟨rs',e,ha'⟩:=rV (L:=eZ) (x:=.bS g rs full) (l:=l) (.inr ⟨g,rs,full,rfl,ha⟩) (Z++[O.cells 82 [] true]);obtain⟨w',τ',h1,h2,h3,h4,h5⟩:=kP (ats:=#[44,44]) (Z:=Z++[O.cells 82 [] true]) (w:=.sl Z.length 0 0 none) (l:=[]) (L:=eZ) h.fS rfl h.dB rfl (by decide) (Bn h) rfl (.inr ⟨Z.length,[],true,rfl,aL,.nil⟩) e ha' (dQ (b:=1000) (by decide) (by simp only[b9];omega));rw[cz]at h2;simp only[aA,Tryz.f121,KP,↓reduceIte,reduceEqDiff,reduceLT,reduceLeDiff,reduceCtorEq,h.fS,h.dB,NA h,h1,Ax.fill,gX,iz];refine⟨h2,λc o hc=>h3 _ _ (aJ hc) λe=>?_,λb hb=>?_⟩
  ·cases e;exact absurd (AI.1 hc).1 (bl _)
  ·rcases h5 b hb with g | g
   ·cases g;exact OF _
   ·simp only[By,af,b9]at g;omega
end
end
section
section
variable {E:Env}{Z:Sg}{K:V->Sg->Prop}
theorem oP {α:Type}{L:Lay α}{t:Nat}{Y:Sg}{w:V}{l:List α} (ow:bB L t Y w l):w.aY=true/\w.cells=[w]:=by
 rcases ow with⟨rfl,-⟩ | ⟨b,rs,ex,rfl,-⟩ <;> exact⟨rfl,rfl⟩
theorem wD {α:Type}{L:Lay α}{t:Nat}{Y:Sg}{w:V}{l:List α}{y:O} (ow:bB L t Y w l)(h:∀b,aQ w=some b->2<=b):bB L t (Y.set 0 y) w l:=ow.keep λc o hc ho=>by
 rw[No (by have:=h c hc;omega)];exact ho
theorem uX {α:Type}{L:Lay α}{t:Nat}{Y:Sg}{w:V}{l:List α}{b:Nat} (ow:bB L t Y w l)(h:aQ w=some b):b<Y.length:=by
 rcases ow with⟨rfl,-⟩ | ⟨b',rs,ex,rfl,hb,-⟩
 ·cases h
 ·cases h;exact (AI.1 hb).1
theorem GA {Y τ':Sg}(h:Kp Y τ'):Y.length<=τ'.length:=by
 refine pn λhlt=>?_;obtain⟨o,ho⟩:∃o,Y[τ'.length]?=some o:=⟨_,AT hlt⟩;exact absurd (AI.1 (h _ _ ho)).1 (bl _)
theorem acq (h:bE E)(h':oF E) {x:aD}{a b c d:V} (ia:IS aO a x.ins) (ib:IS aO b x.outs) (ic:IS aO c x.after) (id:IS eZ d x.steps)(hs:Small x) (F:FT) (g1:F.get 1=.ref 0 0) {st:List kH}{Q:Ax.X->Fr->Sg->Prop}
  (hk:∀F' Y w1 w2 w3 w4,F'.get 1=.ref 0 0->F'.get 2=F.get 2->Y[0]?=some (O.cells 46 [.str x.name,w1,w2,w3,w4] true)->Y[1]?=some (O.cells 46 [.str [],.aF,.aF,.aF,.aF] true)->bB aO 9 Y w1 x.ins->bB aO 9 Y w2 x.outs->bB aO 9 Y w3 x.after->bB eZ 82 Y w4 x.steps->(∀b,aQ w4=some b->2<=b/\aQ w1≠some b/\aQ w2≠some b/\aQ w3≠some b)->M E st .normal ⟨52,F'⟩ Y Q) :
  R E (.region 1 (opsOf (cutAt [1,0] (aA Tryz.f69).code)) true) st ⟨52,F⟩ [O.cells 46 [.str x.name,a,b,c,d] true,O.cells 46 [.str [],.aF,.aF,.aF,.aF] true] Q:=by
 have l1:=hs.ins;have l2:=hs.outs;have l3:=hs.after;have l4:=hs.steps;obtain⟨n1,w1,τ1,⟨ow1,kp1,fr1⟩,c1⟩:=aB.up (tT (Z:=[O.cells 46 [.str x.name,a,b,c,d] true,O.cells 46 [.str [],.aF,.aF,.aF,.aF] true]) h ia (by omega));obtain⟨n2,w2,τ2,⟨ow2,kp2,fr2⟩,c2⟩:=aB.up (tT (Z:=τ1) h ib (by omega));obtain⟨n3,w3,τ3,⟨ow3,kp3,fr3⟩,c3⟩:=aB.up (tT (Z:=τ2) h ic (by omega));obtain⟨n4,w4,τ4,⟨ow4,kp4,fr4⟩,c4⟩:=aB.up (N8 (Z:=τ3) h h' id (by omega));have c1:=c1 (n1+n2+n3+n4) (by omega);have c2:=c2 (n1+n2+n3+n4) (by omega);have c3:=c3 (n1+n2+n3+n4) (by omega);have c4:=c4 (n1+n2+n3+n4) (by omega);generalize n1+n2+n3+n4=n at c1 c2 c3 c4;have k0:∀Y:Sg,Kp [O.cells 46 [.str x.name,a,b,c,d] true,O.cells 46 [.str [],.aF,.aF,.aF,.aF] true] Y->Y[0]?=some (O.cells 46 [.str x.name,a,b,c,d] true)/\Y[1]?=some (O.cells 46 [.str [],.aF,.aF,.aF,.aF] true):=λY hk=>⟨hk 0 _ rfl,hk 1 _ rfl⟩;have q2:Kp [O.cells 46 [.str x.name,a,b,c,d] true,O.cells 46 [.str [],.aF,.aF,.aF,.aF] true] τ2:=λc o e=>kp2 c o (kp1 c o e);have q3:Kp [O.cells 46 [.str x.name,a,b,c,d] true,O.cells 46 [.str [],.aF,.aF,.aF,.aF] true] τ3:=λc o e=>kp3 c o (q2 c o e);have q4:Kp [O.cells 46 [.str x.name,a,b,c,d] true,O.cells 46 [.str [],.aF,.aF,.aF,.aF] true] τ4:=λc o e=>kp4 c o (q3 c o e);obtain⟨b1,z1⟩:=k0 τ1 kp1;obtain⟨b2,z2⟩:=k0 τ2 q2;obtain⟨b3,z3⟩:=k0 τ3 q3;obtain⟨b4,z4⟩:=k0 τ4 q4;have hlt4:=(AI.1 b4).1;have s1:∀y,(τ4.set 0 y)[0]?=some y:=λy=>bt hlt4;obtain⟨o1,t1⟩:=oP ow1;obtain⟨o2,t2⟩:=oP ow2;obtain⟨o3,t3⟩:=oP ow3;obtain⟨o4,t4⟩:=oP ow4;have v1:=cK 10 ia;have v2:=cK 10 ib;have v3:=cK 10 ic;have v4:=pD 9 id
 have key:∃F',cO E (ev E n) (opsOf (cutAt [1,0] (aA Tryz.f69).code)) ⟨52,F⟩ [O.cells 46 [.str x.name,a,b,c,d] true,O.cells 46 [.str [],.aF,.aF,.aF,.aF] true]=some (⟨52,F'⟩,τ4.set 0 (O.cells 46 [.str x.name,w1,w2,w3,w4] true))/\F'.get 1=.ref 0 0/\F'.get 2=F.get 2:=by
  unfold cO;rw[h'.XA,h'.Zc];simp only[aA,Tryz.f69,KP,Ax.loadAt,Ax.storeAt,↓reduceIte,reduceEqDiff,reduceLT,reduceLeDiff,reduceAdd,reduceCtorEq,h.a_,h.fS,h.bM,opsOf,cutAt,iL,bL,cA,kY,Ax.comp,Ax.last,iN,Ax.again,g1,c1,c2,c3,c4,b1,b2,b3,b4,s1,o1,o2,o3,o4,t1,t2,t3,t4,v2,v3,v4,List.set_set];exact⟨_,rfl,(by simp +decide only[GS,g1,aj])⟩
 obtain⟨F',hD,f1,f2⟩:=key;have n1:=GA kp1;have n2:=GA kp2;have n3:=GA kp3;have n0:([O.cells 46 [.str x.name,a,b,c,d] true,O.cells 46 [.str [],.aF,.aF,.aF,.aF] true]:Sg).length=2:=rfl;rw[n0]at n1 fr1;have k2:∀b,aQ w2=some b->2<=b:=λb hb=>by have:=fr2 b hb;omega
 have k3:∀b,aQ w3=some b->2<=b:=λb hb=>by have:=fr3 b hb;omega
 have k4:∀b,aQ w4=some b->2<=b:=λb hb=>by have:=fr4 b hb;omega
 refine Eq.mpr (i_ hD) (hk F' _ w1 w2 w3 w4 f1 f2 (s1 _) (by rw[No (by decide)];exact z4) (wD (ow1.keep λc o _ hc=>kp4 c o (kp3 c o (kp2 c o hc))) fr1) (wD (ow2.keep λc o _ hc=>kp4 c o (kp3 c o hc)) k2) (wD (ow3.keep λc o _ hc=>kp4 c o hc) k3) (wD ow4 k4) λb hb=>⟨k4 b hb,λe=>?_,λe=>?_,λe=>?_⟩)
 ·have:=fr4 b hb;have:=uX ow1 e;omega
 ·have:=fr4 b hb;have:=uX ow2 e;omega
 ·have:=fr4 b hb;have:=uX ow3 e;omega
end
end
section
section
variable {E:Env}{Z:Sg}{K:V->Sg->Prop}
theorem AZ {k:Nat}(hk:k<5):∀{R:List (List V)}{i:Nat}{r:List V},(∀x∈R,x.length=5)->R[i]?=some r->R.flatten[i*5+k]?=r[k]?
 | [],_,_,_,h=>by cases h
 |x::R,0,r,hx,h=>by
  cases h;rw[dw,iz,dh,b8 (by rw[hx _ (IN ..)];exact hk)]
 |x::R,i+1,r,hx,h=>by
  have hl:=hx _ (IN ..);rw[dw,br (by omega),show (i+1)*5+k-x.length=i*5+k by omega];exact AZ hk (λy hy=>hx y (ae _ hy)) h
theorem Fx {k:Nat}{v:V}(hk:k<5):∀{R:List (List V)}{i:Nat}{r:List V},(∀x∈R,x.length=5)->R[i]?=some r->setCells R.flatten (i*5+k) [v]=(R.set i (r.set k v)).flatten
 | [],_,_,_,h=>by cases h
 |x::R,0,r,hx,h=>by
  cases h;have hl:=hx _ (IN ..);rw[l6,dw,dw,iz,dh];unfold setCells;rw[mm (by omega),List.drop_append_of_le_length (by rw[dm];omega),List.set_eq_take_append_cons_drop,az (by omega)];simp
 |x::R,i+1,r,hx,h=>by
  have hl:=hx _ (IN ..);have ih:=Fx (v:=v) hk (λy hy=>hx y (ae _ hy)) h;rw[nr,dw,dw,<- ih];unfold setCells;rw[List.take_append,ak (by omega),show (i+1)*5+k-x.length=i*5+k by omega,List.drop_append,nf (by omega),show (i+1)*5+k + [v].length-x.length=i*5+k + [v].length by omega];simp
theorem Kb (h:bE E) {Y:Sg}{b i k:Nat}{R:List (List V)}{r:List V}{v:V}{ex:Bool}(hb:Y[b]?=some (.cells 82 R.flatten ex))(hx:∀x∈R,x.length=5)(hr:R[i]?=some r)(hk:k<5)(hv:r[k]?=some v):loadAt E Y 24 (.ref b (i*5+k))=some v:=by
 unfold Ax.loadAt;simp only[h.a_,hb,AZ hk hx hr,hv,Ax.isAgg];rfl
theorem OE (h:bE E) {Y:Sg}{b i k:Nat}{R:List (List V)}{r:List V}{v:V}{ex:Bool}(hb:Y[b]?=some (.cells 82 R.flatten ex))(hx:∀x∈R,x.length=5)(hr:R[i]?=some r)(hk:k<5)(hc:v.cells=[v])(ho:v.aY=true):storeAt E Y 24 (.ref b (i*5+k)) v=some (Y.set b (.cells 82 (R.set i (r.set k v)).flatten ex)):=by
 unfold Ax.storeAt
 have hl:i*5+k+1<=R.flatten.length:=by
  have:=AZ hk hx hr;have hrl:=hx r (ag hr);rw[AT (show k<r.length by omega)]at this;have:=(AI.1 this).1;omega
 simp only[h.a_,hb,hc,af,b9,j9,l5,ho,BY hl,Fx hk hx hr];rfl
theorem Wr (h:bE E) {b n i:Nat}(hi:i<n):indexAddr E 44 (.sl b 0 n none) (.int .i64 (i:Int))=some (.ref b (i*5)):=by
 unfold Ax.indexAddr;simp only[h.fS,h.dB,show ¬ ((i:Int)<0) by omega,ay,dz,hi,bf,dh]
theorem O5 {R:List (List V)}{i k:Nat}{r:List V}{v:V}(hx:∀x∈R,x.length=5)(hr:R[i]?=some r):∀x∈R.set i (r.set k v),x.length=5:=λx hm=>by
 rcases List.mem_or_eq_of_mem_set hm with hm | rfl
 ·exact hx x hm
 ·rw[ec];exact hx r (ag hr)
theorem acp (h:bE E)(h':oF E) {x:aD}{w1 w2 w3 p q:V}{s:AxS.Step}{b n i:Nat}{R:List (List V)}{ex:Bool}{Y:Sg}(h0:Y[0]?=some (O.cells 46 [.str x.name,w1,w2,w3,.sl b 0 n none] true))(hb:Y[b]?=some (.cells 82 R.flatten ex))(hx:∀x∈R,x.length=5)(hr:R[i]?=some ([.str s.out,.int .i64 s.op,p,q,.int .i64 s.n]))(hi:i<n) (ip:IS aO p s.args) (iq:IS aO q s.lits) (l1:s.args.length<=8) (l2:s.lits.length<=3)(hb2:2<=b)
  (F:FT) (g1:F.get 1=.ref 0 0) (g3:F.get 3=.int .i64 (i:Int)) {st:List kH}{Q:Ax.X->Fr->Sg->Prop}
  (hk:∀F' τ' wp wq,(∀k,k∈[1,2,22,23]->F'.get k=F.get k)->τ'[b]?=some (.cells 82 (R.set i ([.str s.out,.int .i64 s.op,wp,wq,.int .i64 s.n])).flatten ex)->bB aO 9 τ' wp s.args->bB aO 9 τ' wq s.lits->(∀(c:Nat) (o:O),Y[c]?=some o->c≠b->τ'[c]?=some o)->(∀c,aQ wp=some c->Y.length<=c)->(∀c,aQ wq=some c->Y.length<=c)->M E st .normal ⟨52,F'⟩ τ' Q) :
  Ax.R E (.region 5 (opsOf (cutAt [1,1,0,1,2,2,1,1,0,2,1] (aA Tryz.f69).code)) true) st ⟨52,F⟩ Y Q:=by
 obtain⟨n1,wp,τ1,⟨ow1,kp1,fr1⟩,c1⟩:=aB.up (tT (Z:=Y) h ip (by omega));obtain⟨n2,wq,τ2,⟨ow2,kp2,fr2⟩,c2⟩:=aB.up (tT (Z:=τ1) h iq (by omega));have c1:=c1 (n1+n2) (by omega);have c2:=c2 (n1+n2) (by omega);generalize n1+n2=m at c1 c2;have h01:=kp1 _ _ h0;have h02:=kp2 _ _ h01;have hb1:=kp1 _ _ hb;have hb2':=kp2 _ _ hb1;obtain⟨o1,t1⟩:=oP ow1;obtain⟨o2,t2⟩:=oP ow2;have e1:=Wr h hi (b:=b) (n:=n);have f1:=Kb h hb hx hr (k:=2) (by decide) rfl;have f2:=Kb h hb1 hx hr (k:=3) (by decide) rfl;have f2'':=Kb h hb hx hr (k:=3) (by decide) rfl;have s1:=OE h hb2' hx hr (k:=2) (v:=wp) (by decide) t1 o1;have hbl:=(AI.1 hb2').1;have hR:(R.set i ([.str s.out,.int .i64 s.op,wp,q,.int .i64 s.n]))[i]?=some ([.str s.out,.int .i64 s.op,wp,q,.int .i64 s.n]):=bt (AI.1 hr).1;have s2:=OE h (Y:=τ2.set b (.cells 82 (R.set i ([.str s.out,.int .i64 s.op,wp,q,.int .i64 s.n])).flatten ex)) (v:=wq) (bt hbl) (O5 (k:=2) (v:=wp) hx hr) hR (k:=3) (by decide) t2 o2;have s1:storeAt E τ2 24 (.ref b (i*5+2)) wp=some (τ2.set b (.cells 82 (R.set i ([.str s.out,.int .i64 s.op,wp,q,.int .i64 s.n])).flatten ex)):=s1
 have s2:storeAt E (τ2.set b (.cells 82 (R.set i ([.str s.out,.int .i64 s.op,wp,q,.int .i64 s.n])).flatten ex)) 24 (.ref b (i*5+3)) wq=some (τ2.set b (.cells 82 (R.set i ([.str s.out,.int .i64 s.op,wp,wq,.int .i64 s.n])).flatten ex)):=by
  rw[s2,List.set_set,List.set_set];rfl
 have lw:loadAt E Y 44 (.ref 0 4)=some (.sl b 0 n none):=by unfold Ax.loadAt;simp only[h.fS,h0];rfl
 have lw1:loadAt E τ1 44 (.ref 0 4)=some (.sl b 0 n none):=by unfold Ax.loadAt;simp only[h.fS,h01];rfl
 have lw2:loadAt E τ2 44 (.ref 0 4)=some (.sl b 0 n none):=by unfold Ax.loadAt;simp only[h.fS,h02];rfl
 have lw3:∀y,loadAt E (τ2.set b y) 44 (.ref 0 4)=some (.sl b 0 n none):=λy=>by
  have h03:(τ2.set b y)[0]?=some (O.cells 46 [.str x.name,w1,w2,w3,.sl b 0 n none] true):=by rw[No (by omega)];exact h02
  unfold Ax.loadAt;simp only[h.fS,h03];rfl
 have vq:=cK 10 iq;have v0:tX 12 (.sl b 0 n none) (.sl b 0 n none)=true:=by unfold tX;simp
 have key:∃F',cO E (ev E m) (opsOf (cutAt [1,1,0,1,2,2,1,1,0,2,1] (aA Tryz.f69).code)) ⟨52,F⟩ Y=some (⟨52,F'⟩,τ2.set b (.cells 82 (R.set i ([.str s.out,.int .i64 s.op,wp,wq,.int .i64 s.n])).flatten ex))/\(∀k,k∈[1,2,22,23]->F'.get k=F.get k):=by
  unfold cO;rw[h'.Xz,h'.Zb];simp only[aA,Tryz.f69,KP,↓reduceIte,reduceEqDiff,reduceLT,reduceAdd,reduceCtorEq,h.a_,h.fS,h.bM,h.dB,opsOf,cutAt,iL,bL,cA,kY,Ax.comp,Ax.last,iN,Ax.again,g1,g3,c1,c2,lw,lw1,lw2,lw3,e1,f1,f2,f2'',s1,s2,vq,v0];refine⟨_,rfl,λk hk=>?_⟩;simp only[IT,cr,fu]at hk;rcases hk with rfl | rfl | rfl | rfl <;> simp +decide only[GS]
 obtain⟨F',hD,hF⟩:=key;have hlen1:=GA kp1
 have hne:∀{w:V},(∀c,aQ w=some c->Y.length<=c)->aQ w≠some b:=λhfr e=>by
  have:=hfr b e;have:=(AI.1 hb).1;omega
 have fr2':∀c,aQ wq=some c->Y.length<=c:=λc hc=>by have:=fr2 c hc;omega
 refine Eq.mpr (i_ hD) (hk F' _ wp wq hF (bt hbl) (bB.set (ow1.keep λc o _ hc=>kp2 c o hc) (hne fr1)) (bB.set ow2 (hne fr2')) (λc o hc hcb=>?_) fr1 fr2');rw[No (jy hcb)];exact kp2 _ _ (kp1 _ _ hc)
end
end
end Go.Proofs.YtmbikbgdbbcbmaaGreatDoor
end
