/- Part 17 of the proof. -/
import Derived.Test.YtmbikbgdbbcbmaaGreatDoorY
import Derived.Test.YtmbikbgdbbcbmaaGreatDoorZ16
import Derived.Test.YtmbikbgdbbcbmaaGreatDoorZ13
set_option maxHeartbeats 8000000
set_option linter.unusedVariables false
set_option maxRecDepth 10000
open Nat renaming reduceEqDiff→δ,reduceLT→ε,reduceAdd→μ,reduceLeDiff→ω,reduceMul→ap,beq→ca
open Go.Ax.O renaming cells→ζ,map→qe
open Go.Ax renaming cutAt→η,loadAt→ι,storeAt→Ξ,opsOf→Φ,setCells→ac,entriesOf→bm,bE→ge,rows→gn,fill→hZ,again→ly,builtin→mi,comp→nz,plainCell→n7,lookup→pj,last→pu,isAgg→qo,mapUpdate→c9,indexAddr→Θ
open Int renaming reduceNeg→φ
open Go.Proofs.Tryz renaming f72→Δ,f13→cf,f119→dl,f158→dp,f150→fX,f182→hI,f266→i9,f120→jp,f69→oX,f149→rz
open Go.Ax.V renaming str→ab,bool→du,int→fj
open Go.AxS renaming Step→am
open Go.AxS.Step renaming out→dt
open List.Pairwise renaming nil→px
section
namespace Go.Proofs.YtmbikbgdbbcbmaaGreatDoor
open Go Go.Ax Go.AxS
section
section
variable {E:Env}{Z:Sg}{K:V->Sg->Prop}
theorem XS(h:bG E){c:Nat}:aB E 266 [.int .i32 (c:Int)] Z K=K (.bool (sign c)) Z:=by
 refine aB.of ?_;rw[aH h.abe h.YH h.acd h.aah (args':=[.int .i32 (c:Int)]) (by simp only[aW,show aR Z E.ty true (.int .i32 (c:Int))=some (.int .i32 (c:Int)) from rfl]),aU (by kernel_rfl)];have hcut:(0<=c/\c<=44)\/(45<=c/\c<=45)\/(46<=c/\c<=46)\/(47<=c/\c<=47)\/(48<=c/\c<=57)\/(58<=c/\c<=64)\/(65<=c/\c<=90)\/(91<=c/\c<=94)\/(95<=c/\c<=95)\/(96<=c/\c<=96)\/(97<=c/\c<=122)\/(123<=c/\123<=c):=by omega
 rcases hcut with⟨h1,h2⟩ | ⟨h1,h2⟩ | ⟨h1,h2⟩ | ⟨h1,h2⟩ | ⟨h1,h2⟩ | ⟨h1,h2⟩ | ⟨h1,h2⟩ | ⟨h1,h2⟩ | ⟨h1,h2⟩ | ⟨h1,h2⟩ | ⟨h1,h2⟩ | ⟨h1,h2⟩
 ·rw[show sign c=false from by unfold sign;simp;omega];have q0:decide ((97:Int)<=(c:Int))=false:=AS (by omega);have q2:decide ((65:Int)<=(c:Int))=false:=AS (by omega);have q4:decide ((48:Int)<=(c:Int))=false:=AS (by omega);have q6:decide ((c:Int)=46)=false:=AS (by omega);have q7:decide ((c:Int)=95)=false:=AS (by omega);have q8:decide ((c:Int)=45)=false:=AS (by omega);simp only[aA,i9,KP,↓reduceIte,δ,ε,reduceCtorEq,q0,q2,q4,q6,q7,q8];exact rfl
 ·rw[show sign c=true from by unfold sign;simp;omega];have q0:decide ((97:Int)<=(c:Int))=false:=AS (by omega);have q2:decide ((65:Int)<=(c:Int))=false:=AS (by omega);have q4:decide ((48:Int)<=(c:Int))=false:=AS (by omega);have q6:decide ((c:Int)=46)=false:=AS (by omega);have q7:decide ((c:Int)=95)=false:=AS (by omega);have q8:decide ((c:Int)=45)=true:=BY (by omega);simp only[aA,i9,KP,↓reduceIte,δ,ε,reduceCtorEq,q0,q2,q4,q6,q7,q8];exact rfl
 ·rw[show sign c=true from by unfold sign;simp;omega];have q0:decide ((97:Int)<=(c:Int))=false:=AS (by omega);have q2:decide ((65:Int)<=(c:Int))=false:=AS (by omega);have q4:decide ((48:Int)<=(c:Int))=false:=AS (by omega);have q6:decide ((c:Int)=46)=true:=BY (by omega);simp only[aA,i9,KP,↓reduceIte,δ,ε,reduceCtorEq,q0,q2,q4,q6];exact rfl
 ·rw[show sign c=false from by unfold sign;simp;omega];have q0:decide ((97:Int)<=(c:Int))=false:=AS (by omega);have q2:decide ((65:Int)<=(c:Int))=false:=AS (by omega);have q4:decide ((48:Int)<=(c:Int))=false:=AS (by omega);have q6:decide ((c:Int)=46)=false:=AS (by omega);have q7:decide ((c:Int)=95)=false:=AS (by omega);have q8:decide ((c:Int)=45)=false:=AS (by omega);simp only[aA,i9,KP,↓reduceIte,δ,ε,reduceCtorEq,q0,q2,q4,q6,q7,q8];exact rfl
 ·rw[show sign c=true from by unfold sign;simp;omega];have q0:decide ((97:Int)<=(c:Int))=false:=AS (by omega);have q2:decide ((65:Int)<=(c:Int))=false:=AS (by omega);have q4:decide ((48:Int)<=(c:Int))=true:=BY (by omega);have q5:decide ((c:Int)<=57)=true:=BY (by omega);simp only[aA,i9,KP,↓reduceIte,δ,ε,reduceCtorEq,q0,q2,q4,q5];exact rfl
 ·rw[show sign c=false from by unfold sign;simp;omega];have q0:decide ((97:Int)<=(c:Int))=false:=AS (by omega);have q2:decide ((65:Int)<=(c:Int))=false:=AS (by omega);have q4:decide ((48:Int)<=(c:Int))=true:=BY (by omega);have q5:decide ((c:Int)<=57)=false:=AS (by omega);have q6:decide ((c:Int)=46)=false:=AS (by omega);have q7:decide ((c:Int)=95)=false:=AS (by omega);have q8:decide ((c:Int)=45)=false:=AS (by omega);simp only[aA,i9,KP,↓reduceIte,δ,ε,reduceCtorEq,q0,q2,q4,q5,q6,q7,q8];exact rfl
 ·rw[show sign c=true from by unfold sign;simp;omega];have q0:decide ((97:Int)<=(c:Int))=false:=AS (by omega);have q2:decide ((65:Int)<=(c:Int))=true:=BY (by omega);have q3:decide ((c:Int)<=90)=true:=BY (by omega);simp only[aA,i9,KP,↓reduceIte,δ,ε,reduceCtorEq,q0,q2,q3];exact rfl
 ·rw[show sign c=false from by unfold sign;simp;omega];have q0:decide ((97:Int)<=(c:Int))=false:=AS (by omega);have q2:decide ((65:Int)<=(c:Int))=true:=BY (by omega);have q3:decide ((c:Int)<=90)=false:=AS (by omega);have q4:decide ((48:Int)<=(c:Int))=true:=BY (by omega);have q5:decide ((c:Int)<=57)=false:=AS (by omega);have q6:decide ((c:Int)=46)=false:=AS (by omega);have q7:decide ((c:Int)=95)=false:=AS (by omega);have q8:decide ((c:Int)=45)=false:=AS (by omega);simp only[aA,i9,KP,↓reduceIte,δ,ε,reduceCtorEq,q0,q2,q3,q4,q5,q6,q7,q8];exact rfl
 ·rw[show sign c=true from by unfold sign;simp;omega];have q0:decide ((97:Int)<=(c:Int))=false:=AS (by omega);have q2:decide ((65:Int)<=(c:Int))=true:=BY (by omega);have q3:decide ((c:Int)<=90)=false:=AS (by omega);have q4:decide ((48:Int)<=(c:Int))=true:=BY (by omega);have q5:decide ((c:Int)<=57)=false:=AS (by omega);have q6:decide ((c:Int)=46)=false:=AS (by omega);have q7:decide ((c:Int)=95)=true:=BY (by omega);simp only[aA,i9,KP,↓reduceIte,δ,ε,reduceCtorEq,q0,q2,q3,q4,q5,q6,q7];exact rfl
 ·rw[show sign c=false from by unfold sign;simp;omega];have q0:decide ((97:Int)<=(c:Int))=false:=AS (by omega);have q2:decide ((65:Int)<=(c:Int))=true:=BY (by omega);have q3:decide ((c:Int)<=90)=false:=AS (by omega);have q4:decide ((48:Int)<=(c:Int))=true:=BY (by omega);have q5:decide ((c:Int)<=57)=false:=AS (by omega);have q6:decide ((c:Int)=46)=false:=AS (by omega);have q7:decide ((c:Int)=95)=false:=AS (by omega);have q8:decide ((c:Int)=45)=false:=AS (by omega);simp only[aA,i9,KP,↓reduceIte,δ,ε,reduceCtorEq,q0,q2,q3,q4,q5,q6,q7,q8];exact rfl
 ·rw[show sign c=true from by unfold sign;simp;omega];have q0:decide ((97:Int)<=(c:Int))=true:=BY (by omega);have q1:decide ((c:Int)<=122)=true:=BY (by omega);simp only[aA,i9,KP,↓reduceIte,δ,ε,reduceCtorEq,q0,q1];exact rfl
 ·rw[show sign c=false from by unfold sign;simp;omega];have q0:decide ((97:Int)<=(c:Int))=true:=BY (by omega);have q1:decide ((c:Int)<=122)=false:=AS (by omega);have q2:decide ((65:Int)<=(c:Int))=true:=BY (by omega);have q3:decide ((c:Int)<=90)=false:=AS (by omega);have q4:decide ((48:Int)<=(c:Int))=true:=BY (by omega);have q5:decide ((c:Int)<=57)=false:=AS (by omega);have q6:decide ((c:Int)=46)=false:=AS (by omega);have q7:decide ((c:Int)=95)=false:=AS (by omega);have q8:decide ((c:Int)=45)=false:=AS (by omega);simp only[aA,i9,KP,↓reduceIte,δ,ε,reduceCtorEq,q0,q1,q2,q3,q4,q5,q6,q7,q8];exact rfl
theorem W_(h:bG E){c:Nat}:KC E 266 [.int .i32 (c:Int)] Z (.bool (sign c)) Z:=dX λ_=>XS h
theorem OD(h:bG E){c:Nat}:aB E 265 [.int .i32 (c:Int)] Z K=K (.bool (!sign c)) Z:=by
 refine aB.of ?_;rw[aH h.abf h.YI h.ace h.aai (args':=[.int .i32 (c:Int)]) (by simp only[aW,show aR Z E.ty true (.int .i32 (c:Int))=some (.int .i32 (c:Int)) from rfl]),aU (by kernel_rfl)];have ks:=λ(Y:Sg)=>W_ (Z:=Y) h (c:=c);simp only[aA,Tryz.f265,KP,↓reduceIte,ε,reduceCtorEq,ks];exact rfl
theorem byte_at{s:bF}{pos ch:Nat}(hc:s[pos]?=some ch)(h:ch<256):((sP s).get! pos).toNat=ch:=by
 show ((s.map UInt8.ofNat).toArray[pos]!).toNat=ch;have e:(s.map UInt8.ofNat).toArray[pos]?=some (UInt8.ofNat ch):=by simp[hc]
 rw[getElem!_def,e];simp only[UInt8.toNat_ofNat'];omega
theorem S_{s:bF}{pos ch:Nat}(hc:s[pos]?=some ch)(h1:¬ ch<128)(h2:ch<256):128<=(Utf8.decode (sP s) pos).1:=by
 unfold Utf8.decode;simp only[l6,byte_at hc h2,h1,b9]
 repeat' split
 all_goals first
  |(simp only[Utf8.runeError];omega)
  |(simp only[ak,gp,af,ge_iff_le]at *;omega)
theorem Iv{c:Nat}(h:128<=c):sign c=false:=by
 unfold sign;simp;omega
theorem KT(h:bG E):mM E 4 false (.bool true) (.bool true)=some true:=by unfold mM;rw[h.Ex];rfl
theorem Xw(h:bG E):mM E 4 false (.bool false) (.bool true)=some false:=by unfold mM;rw[h.Ex];rfl
theorem b_xF(h:bG E){s:bF}{k:Nat}{P:Nat->Bool}(hsm:s.length<=4294967296)(hP:∀(Z:Sg)(r:Nat),aB E k [.int .i32 (r:Int)] Z λu Y=>Y=Z/\u=.bool (P r))(hhi:∀r,128<=r->P r=true):aB E 321 [.str s,.fn k [] [],.bool true] Z λv Y=>Y=Z/\∃n:Int,v=.int .i64 n/\decide (0<=n)=s.any P:=by
 have ef:=sS (E:=E) (k:=k) (caps:=[]) (λ_ h=>by cases h) Z;rw[aH h.abc h.YE h.ab8 h.aaf (args':=[.str s,.fn k [] [],.bool true]) (by simp only[aW,dM,ef,show aR Z E.ty true (.bool true)=some (.bool true) from rfl]),aU (by kernel_rfl)];simp only[aA,Tryz.f321,KP,↓reduceIte,ε,μ,reduceCtorEq,φ,h.dJ,qA];refine aV (λi F Y=>Y=[.JK s i]/\F.get 1=.fn k [] []/\F.get 2=.bool true/\F.get 10=.ref 0 0/\∀j y,j<i->s[j]?=some y->P y=false) s.length ?_ ?_ s.length 0 _ _ (by omega) ⟨rfl,(fK (by simp+decide only[GS,aj]) (λj y hj=>by omega))⟩
 ·rintro i F Y hi ⟨rfl,g1,g2,g10,hp⟩ next
  obtain⟨x,hx⟩:∃x,s[i]?=some x:=⟨_,AT hi⟩;rw[aF];by_cases h128:x<128
  ·simp only[KP,↓reduceIte,δ,ε,φ,g1,g10,xG,hx,h128];refine aK (hP _ x) ?_;rintro u Y ⟨rfl,rfl⟩;by_cases hxs:P x=true
   ·simp only[KP,↓reduceIte,δ,ε,φ,g2,hxs,KT h];exact⟨_,rfl,by rw[show s.any P=true from fh.2 ⟨x,ag hx,hxs⟩];exact BY (by omega)⟩
   ·have hxs:P x=false:=by simpa using hxs
    simp only[KP,↓reduceIte,δ,ε,φ,g2,hxs,Xw h];refine next _ _ ⟨rfl,(fK (by simp+decide only[GS,g1,g2,g10,aj]) (λj y hj hy=>?_))⟩
    rcases cr j i with g | g
    ·exact hp j y g hy
    ·obtain rfl:j=i:=by omega
     rw[hx]at hy;cases hy;exact hxs
  have hany:s.any P=true:=fh.2 ⟨x,ag hx,hhi x (by omega)⟩;by_cases h256:x<256
  ·simp only[KP,↓reduceIte,δ,ε,φ,g1,g10,xG,hx,h128,h256];refine aK (hP _ (Utf8.decode (sP s) i).1) ?_;rintro u Y ⟨rfl,rfl⟩;have hxs:=hhi _ (S_ hx h128 h256);simp only[KP,↓reduceIte,δ,ε,φ,g2,hxs,KT h];exact⟨_,rfl,by rw[hany];exact BY (by omega)⟩
  ·simp only[KP,↓reduceIte,δ,ε,φ,g1,g10,xG,hx,h128,h256];refine aK (hP _ 65533) ?_;rintro u Y ⟨rfl,rfl⟩;have hxs:=hhi _ (show 128<=65533 by omega);simp only[KP,↓reduceIte,δ,ε,φ,g2,hxs,KT h];exact⟨_,rfl,by rw[hany];exact BY (by omega)⟩
 ·rintro F Y ⟨rfl,g1,g2,g10,hp⟩;have hx:s[s.length]?=none:=ir (OF _);rw[aF];simp only[KP,↓reduceIte,ε,φ,g10,xG,hx];refine⟨-1,rfl,?_⟩
  rw[show s.any P=false from mj.2 λx hx=>by
   obtain⟨j,hj,e⟩:=fm hx;rw[hp j x hj (by rw[AT hj,e])];simp]
  rfl
theorem XZ(h:bG E){s:bF}{k:Nat}{P:Nat->Bool}(hsm:s.length<=4294967296)(hP:∀(Z:Sg)(r:Nat),aB E k [.int .i32 (r:Int)] Z λu Y=>Y=Z/\u=.bool (P r))(hhi:∀r,128<=r->P r=true):aB E 300 [.str s,.fn k [] []] Z λv Y=>Y=Z/\∃n:Int,v=.int .i64 n/\decide (0<=n)=s.any P:=by
 have ef:=sS (E:=E) (k:=k) (caps:=[]) (λ_ h=>by cases h) Z;rw[aH h.abd h.YF h.ab9 h.aag (args':=[.str s,.fn k [] []]) (by simp only[aW,dM,ef]),aU (by kernel_rfl)];simp only[aA,Tryz.f300,KP,↓reduceIte,δ,ε,μ,reduceCtorEq];refine aK (b_xF h hsm hP hhi) ?_;rintro v Y ⟨rfl,n,rfl,hn⟩;simp only[KP,↓reduceIte,ε];exact⟨n,rfl,hn⟩
theorem U3(h:bG E){s:bF}{k:Nat}{P:Nat->Bool}(hsm:s.length<=4294967296)(hP:∀(Z:Sg)(r:Nat),aB E k [.int .i32 (r:Int)] Z λu Y=>Y=Z/\u=.bool (P r))(hhi:∀r,128<=r->P r=true):aB E 264 [.str s,.fn k [] []] Z K=K (.bool (s.any P)) Z:=by
 refine aB.of ?_;have ef:=sS (E:=E) (k:=k) (caps:=[]) (λ_ h=>by cases h) Z;rw[aH h.abg h.YJ h.acf h.aaj (args':=[.str s,.fn k [] []]) (by simp only[aW,dM,ef]),aU (by kernel_rfl)];simp only[aA,Tryz.f264,KP,↓reduceIte,δ,ε,μ,reduceCtorEq];refine aK (XZ h hsm hP hhi) ?_;rintro v Y ⟨rfl,n,rfl,hn⟩;simp only[KP,↓reduceIte,ε,hn];exact rfl
theorem adw(h:bG E){p:bF}(hsm:p.length<=4294967296):aB E 237 [.str p] Z K=K (.bool (!sZ p)) Z:=by
 refine aB.of ?_;rw[aH h.abj h.YL h.ach h.aal (args':=[.str p]) (by simp only[aW,dM]),aU (by kernel_rfl)];by_cases h1:p=[]
 ·have q1:=iX h1;simp only[aA,Tryz.f237,KP,↓reduceIte,δ,ε,reduceCtorEq,lZ,q1];rw[AR (.inl h1)];exact rfl
 have q1:=gW h1;by_cases h2:p=[46]
 ·have q2:=iX h2;simp only[aA,Tryz.f237,KP,↓reduceIte,δ,ε,reduceCtorEq,lZ,On,q1,q2];rw[AR (.inr (.inl h2))];exact rfl
 have q2:=gW h2;by_cases h3:p=[46,46]
 ·have q3:=iX h3;simp only[aA,Tryz.f237,KP,↓reduceIte,δ,ε,reduceCtorEq,lZ,On,UG,q1,q2,q3];rw[AR (.inr (.inr h3))];exact rfl
 have q3:=gW h3;have kc:=λ(Y:Sg)=>dX (λK=>U3 (Z:=Y) (K:=K) (s:=p) (k:=265) (P:=λc=>!sign c) h hsm (λY r=>by rw[OD h];exact⟨rfl,rfl⟩) (λr hr=>by rw[Iv hr];rfl));simp only[aA,Tryz.f237,KP,↓reduceIte,δ,ε,reduceCtorEq,lZ,On,UG,q1,q2,q3,kc];rw[Kv h1 h2 h3,l5];exact rfl
theorem A5:∀l:List bF,eL aP.P (l.map λp=>[ab p]) l
 | []=>.nil
 |_::l=>.cons rfl (A5 l)
theorem RX(h:bG E){s:bF}(hsm:s.length<=1000000000):aB E 236 [.str s] Z λv Y=>Y=Z/\kQ aP v (cT 47 s):=by
 rw[aH h.abk h.YM h.aci h.aam (args':=[.str s]) (by simp only[aW,dM]),aU (by kernel_rfl)]
 have hs:kR [.str s,.str [47]]=some (.bV false ((cT 47 s).map λp=>[ab p]) true):=by
  unfold kR;exact az (by omega)
 have iv:kQ aP (.bV false ((cT 47 s).map λp=>[ab p]) true) (cT 47 s):=.inr ⟨_,_,rfl,A5 _⟩;have h5:∀Z,cQ Z E.ty false (.bV false ((cT 47 s).map λp=>[ab p]) true)=some (.bV false ((cT 47 s).map λp=>[ab p]) true):=λZ=>(show cQ Z E.ty false (.bV false ((cT 47 s).map λp=>[ab p]) true)=aR Z E.ty false (.bV false ((cT 47 s).map λp=>[ab p]) true) from rfl).trans (bZ iv.is.bE iv.tag);have kc:=λ(Y:Sg)=>dX (λK=>qR (Z:=Y) (K:=K) (args:=[.str s,.str [47]]) (args':=[.str s,.str [47]]) h.abv h.YW (by simp only[aW,dM]) hs (h5 []));have hb:Ax.bytes ⟨#[47]⟩=[47]:=rfl;simp only[aA,Tryz.f236,KP,↓reduceIte,ε,reduceCtorEq,kc,h5,hb];exact iv
theorem GR{s:bF}(h:¬ s.length<=40):bL s=false:=by unfold bL;rw[AS h];simp
theorem qW{s:bF}(h:pW s=true):bL s=false:=by unfold bL;rw[h];rfl
theorem adx(h:bG E){s:bF}:aB E 199 [.str s] Z K=K (.bool (bL s)) Z:=by
 refine aB.of ?_;rw[aH h.abr h.YT h.acq h.aat (args':=[.str s]) (by simp only[aW,dM]),aU (by kernel_rfl)];by_cases w0:s=[114,117,108,101]
 ·have e0:=iX w0;simp only[aA,Tryz.f199,KP,↓reduceIte,ε,reduceCtorEq,D9,e0];rw[qW (by rw[w0];rfl)];exact rfl
 have e0:=gW w0;by_cases w1:s=[105,110]
 ·have e1:=iX w1;simp only[aA,Tryz.f199,KP,↓reduceIte,δ,ε,reduceCtorEq,D9,Ho,e0,e1];rw[qW (by rw[w1];rfl)];exact rfl
 have e1:=gW w1;by_cases w2:s=[111,117,116]
 ·have e2:=iX w2;simp only[aA,Tryz.f199,KP,↓reduceIte,δ,ε,reduceCtorEq,D9,Ho,KV,e0,e1,e2];rw[qW (by rw[w2];rfl)];exact rfl
 have e2:=gW w2;by_cases w3:s=[97,102,116,101,114]
 ·have e3:=iX w3;simp only[aA,Tryz.f199,KP,↓reduceIte,δ,ε,reduceCtorEq,D9,Ho,KV,RD,e0,e1,e2,e3];rw[qW (by rw[w3];rfl)];exact rfl
 have e3:=gW w3;by_cases h40:s.length<=40
 case neg=>
  have q1:decide ((s.length:Int)<=40)=false:=AS (by omega);rw[GR h40];simp only[aA,Tryz.f199,KP,↓reduceIte,δ,ε,reduceCtorEq,gB h,D9,Ho,KV,RD,e0,e1,e2,e3,q1];exact rfl
 have q1:decide ((s.length:Int)<=40)=true:=BY (by omega);have hr:pW s=false:=by unfold pW;rw[AS w0,AS w1,AS w2,AS w3];rfl
 rw[Qv hr h40];simp only[aA,Tryz.f199,KP,↓reduceIte,δ,ε,reduceCtorEq,gB h,D9,Ho,KV,RD,e0,e1,e2,e3,q1];refine aK (RX h (by omega)) ?_;rintro v σ' ⟨rfl,hv⟩;have hPl:=sR 47 s;have hPp:=uT (s:=s) rfl;generalize cT 47 s=P at *
 have kc:=λ(Y:Sg)=>MA (Z:=Y) (k:=237) (caps:=[]) (P:=λp=>!sZ p) h (hv.is.ls Y 9) (by omega) (λ_ h=>by cases h) (λy v hy hv=>by
  subst hv;have:=hPp y hy;show aB E 237 [.str y] [] _;rw[adw h (by omega)];exact⟨rfl,rfl⟩)
 simp only[KP,↓reduceIte,δ,ε,kc];rw[<- l5,Bool.not_not];exact rfl
theorem aa8(h:bG E){s:bF}:KC E 199 [.str s] Z (.bool (bL s)) Z:=dX λ_=>adx h
theorem RV(h:bG E){p:Int}:aB E 183 [.int .i64 p] Z K=K (.fR [.int .i64 ((counts p).1:Nat),.int .i64 ((counts p).2.1:Nat),.int .i64 ((counts p).2.2:Nat)]) Z:=by
 refine aB.of ?_;rw[aH h.abx h.YY h.acv h.aax (args':=[.int .i64 p]) (by simp only[aW,show aR Z E.ty true (.int .i64 p)=some (.int .i64 p) from rfl]),aU (by kernel_rfl)];by_cases p5:p=5
 ·have q5:decide (p=5)=true:=BY p5;simp only[aA,Tryz.f183,KP,↓reduceIte,δ,ε,reduceCtorEq,q5];rw[p5];exact rfl
 have q5:decide (p=5)=false:=AS p5;by_cases p6:p=6
 ·have q6:decide (p=6)=true:=BY p6;simp only[aA,Tryz.f183,KP,↓reduceIte,δ,ε,reduceCtorEq,q5,q6];rw[p6];exact rfl
 have q6:decide (p=6)=false:=AS p6;by_cases p7:p=7
 ·have q7:decide (p=7)=true:=BY p7;simp only[aA,Tryz.f183,KP,↓reduceIte,δ,ε,reduceCtorEq,q5,q6,q7];rw[p7];exact rfl
 have q7:decide (p=7)=false:=AS p7;by_cases p8:p=8
 ·have q8:decide (p=8)=true:=BY p8;simp only[aA,Tryz.f183,KP,↓reduceIte,δ,ε,reduceCtorEq,q5,q6,q7,q8];rw[p8];exact rfl
 have q8:decide (p=8)=false:=AS p8;have e:counts p=(1,1,0):=by unfold counts;rw[an p5,an p6,an p7,an p8]
 rw[e];simp only[aA,Tryz.f183,KP,↓reduceIte,δ,ε,reduceCtorEq,q5,q6,q7,q8];exact rfl
theorem Q8(h:bG E){p:Int}:KC E 183 [.int .i64 p] Z (.fR [.int .i64 ((counts p).1:Nat),.int .i64 ((counts p).2.1:Nat),.int .i64 ((counts p).2.2:Nat)]) Z:=dX λ_=>RV h
theorem OE(h:bG E){s:bF}:aB E 184 [.str s] Z K=K (.bool (decide (100<s.length))) Z:=by
 refine aB.of ?_;rw[aH h.abw h.YX h.acu h.aaw (args':=[.str s]) (by simp only[aW,dM]),aU (by kernel_rfl)];simp only[aA,Tryz.f184,KP,↓reduceIte,ε,reduceCtorEq,gB h];rw[show decide ((100:Int)<(s.length:Int))=decide (100<s.length) from by rw[pc];omega];exact rfl
theorem ID{x:am}:cM x=true ↔ ((1<=x.op/\x.op<=9)/\((counts x.op).1<=x.args.length/\x.args.length<=(counts x.op).2.1))/\x.lits.length=(counts x.op).2.2/\(x.lits.any λl=>decide (100<l.length))=false/\(x.op=8->x.lits.head?≠some [])/\(0<=x.n/\x.n<=2000)/\(x.op=9\/x.n=0):=by
 have e:x.lits.all (λl=>decide (l.length<=100)) = !(x.lits.any λl=>decide (100<l.length)):=by
  rw[List.not_any_eq_all_not];congr 1;funext l;rw[<- decide_not,pc];omega
 unfold cM;rw[e];simp only[ak,af,and_assoc,gu]
theorem rS{x:am}(h:¬ (cM x=true)):cM x=false:=by simpa using h
theorem OB(h:bG E){v:V}{x:am}(hv:OQ v x)(hsm:x.lits.length<=4294967296):aB E 150 [v] Z K=K (.bool (cM x)) Z:=by
 refine aB.of ?_;have ev:=hv.snap (E:=E) Z;obtain⟨a,b,rfl,ia,ib⟩:=hv;have hoka:a.aZ=true:=aQ ia.bE;have hokb:b.aZ=true:=aQ ib.bE;rw[aH h.abG h.Y7 h.acE h.aaF (args':=[.agg [.str x.out,.int .i64 x.op,a,b,.int .i64 x.n]]) (by simp only[aW,ev]),aU (by kernel_rfl)];have la:=bT h ia;have lb:=bT h ib;have hm:=ID (x:=x);have kc:=λ(Y:Sg)=>Q8 (Z:=Y) h (p:=x.op)
 have kl:=λ(Y:Sg)=>MA (Z:=Y) (k:=184) (caps:=[]) (P:=λl=>decide (100<l.length)) h (ib.ls Y 9) hsm (λ_ h=>by cases h) (λy v hy hv=>by
  subst hv;show aB E 184 [.str y] [] _;rw[OE h];exact⟨rfl,rfl⟩)
 have h8:x.op=8->(counts x.op).2.2=2:=λe=>by rw[e];rfl
 generalize (counts x.op).1=A at *;generalize (counts x.op).2.1=B at *;generalize (counts x.op).2.2=C at *;by_cases p1:1<=x.op
 case neg=>
  have q1:decide (x.op<1)=true:=BY (by omega);rw[rS (mt hm.1 λhh=>by omega)];simp only[aA,fX,KP,ι,↓reduceIte,δ,ε,μ,reduceCtorEq,h.mP,h.dF,kc,hoka,hokb,q1];exact rfl
 have q1:decide (x.op<1)=false:=AS (by omega);by_cases p2:x.op<=9
 case neg=>
  have q2:decide ((9:Int)<x.op)=true:=BY (by omega);rw[rS (mt hm.1 λhh=>by omega)];simp only[aA,fX,KP,ι,↓reduceIte,δ,ε,μ,reduceCtorEq,h.mP,h.dF,kc,hoka,hokb,q1,q2];exact rfl
 have q2:decide ((9:Int)<x.op)=false:=AS (by omega);by_cases p3:A<=x.args.length
 case neg=>
  have q3:decide ((x.args.length:Int)<(A:Int))=true:=BY (by omega);rw[rS (mt hm.1 λhh=>by omega)];simp only[aA,fX,KP,ι,↓reduceIte,δ,ε,μ,reduceCtorEq,h.mP,h.bB,h.dF,kc,la,hoka,hokb,q1,q2,q3];exact rfl
 have q3:decide ((x.args.length:Int)<(A:Int))=false:=AS (by omega);by_cases p4:x.args.length<=B
 case neg=>
  have q4:decide ((B:Int)<(x.args.length:Int))=true:=BY (by omega);rw[rS (mt hm.1 λhh=>by omega)];simp only[aA,fX,KP,ι,↓reduceIte,δ,ε,μ,reduceCtorEq,h.mP,h.bB,h.dF,kc,la,hoka,hokb,q1,q2,q3,q4];exact rfl
 have q4:decide ((B:Int)<(x.args.length:Int))=false:=AS (by omega);by_cases p5:x.lits.length=C
 case neg=>
  have q5:decide ((x.lits.length:Int)=(C:Int))=false:=AS (by omega);rw[rS (mt hm.1 λhh=>by omega)];simp only[aA,fX,KP,ι,↓reduceIte,δ,ε,μ,reduceCtorEq,h.mP,h.bB,h.dF,kc,la,lb,hoka,hokb,q1,q2,q3,q4,q5];exact rfl
 have q5:decide ((x.lits.length:Int)=(C:Int))=true:=BY (by omega);by_cases p6:(x.lits.any λl=>decide (100<l.length))=true
 ·rw[rS (mt hm.1 λhh=>by rw[p6]at hh;simp at hh)];simp only[aA,fX,KP,ι,↓reduceIte,δ,ε,μ,reduceCtorEq,h.mP,h.bB,h.dF,kc,kl,la,lb,hoka,hokb,q1,q2,q3,q4,q5,p6];exact rfl
 have q6:(x.lits.any λl=>decide (100<l.length))=false:=by simpa using p6
 by_cases p8:x.op=8
 ·have q8:decide (x.op=8)=true:=BY p8;have hC:=h8 p8;obtain⟨y,r,hyr⟩:=o5 (show x.lits≠[] from λe=>by rw[e]at p5;simp at p5;omega);obtain⟨g,e1⟩:=g_ h ib (i:=0) (x:=y) (by rw[hyr];rfl);have e1:indexAddr E 24 b (.int .i64 0)=some (.cR g [.str y]):=e1;by_cases hy:y=[]
  ·have e2:=iX hy;rw[rS (mt hm.1 λhh=>hh.2.2.2.1 p8 (by rw[hyr,hy];rfl))];simp only[aA,fX,KP,ι,↓reduceIte,δ,ε,μ,reduceCtorEq,h.mP,h.dJ,h.bB,h.dF,lZ,kc,kl,la,lb,hoka,hokb,q1,q2,q3,q4,q5,q6,q8,e1,e2];exact rfl
  have e2:=gW hy;have hh8:x.op=8->x.lits.head?≠some []:=λ_=>by rw[hyr];simpa using hy
  by_cases p9:0<=x.n
  case neg=>
   have q9:decide (x.n<0)=true:=BY (by omega);rw[rS (mt hm.1 λhh=>by omega)];simp only[aA,fX,KP,ι,↓reduceIte,δ,ε,μ,reduceCtorEq,h.mP,h.dJ,h.bB,h.dF,lZ,kc,kl,la,lb,hoka,hokb,q1,q2,q3,q4,q5,q6,q8,e1,e2,q9];exact rfl
  have q9:decide (x.n<0)=false:=AS (by omega);by_cases p10:x.n<=2000
  case neg=>
   have HB:decide ((2000:Int)<x.n)=true:=BY (by omega);rw[rS (mt hm.1 λhh=>by omega)];simp only[aA,fX,KP,ι,↓reduceIte,δ,ε,μ,reduceCtorEq,h.mP,h.dJ,h.bB,h.dF,lZ,kc,kl,la,lb,hoka,hokb,q1,q2,q3,q4,q5,q6,q8,e1,e2,q9,HB];exact rfl
  have HB:decide ((2000:Int)<x.n)=false:=AS (by omega);by_cases p11:x.op=9
  ·have JM:decide (x.op=9)=true:=BY p11;rw[hm.2 ⟨⟨⟨p1,p2⟩,p3,p4⟩,p5,q6,hh8,⟨p9,p10⟩,.inl p11⟩];simp only[aA,fX,KP,ι,↓reduceIte,δ,ε,μ,reduceCtorEq,h.mP,h.dJ,h.bB,h.dF,lZ,kc,kl,la,lb,hoka,hokb,q1,q2,q3,q4,q5,q6,q8,e1,e2,q9,HB,JM];exact rfl
  have JM:decide (x.op=9)=false:=AS p11;by_cases p12:x.n=0
  case neg=>
   have L9:decide (x.n=0)=false:=AS (by omega);rw[rS (mt hm.1 λhh=>by omega)];simp only[aA,fX,KP,ι,↓reduceIte,δ,ε,μ,reduceCtorEq,h.mP,h.dJ,h.bB,h.dF,lZ,kc,kl,la,lb,hoka,hokb,q1,q2,q3,q4,q5,q6,q8,e1,e2,q9,HB,JM,L9];exact rfl
  have L9:decide (x.n=0)=true:=BY (by omega);rw[hm.2 ⟨⟨⟨p1,p2⟩,p3,p4⟩,p5,q6,hh8,⟨p9,p10⟩,.inr p12⟩];simp only[aA,fX,KP,ι,↓reduceIte,δ,ε,μ,reduceCtorEq,h.mP,h.dJ,h.bB,h.dF,lZ,kc,kl,la,lb,hoka,hokb,q1,q2,q3,q4,q5,q6,q8,e1,e2,q9,HB,JM,L9];exact rfl
 ·have q8:decide (x.op=8)=false:=AS p8;have hh8:x.op=8->x.lits.head?≠some []:=λe=>absurd e p8;by_cases p9:0<=x.n
  case neg=>
   have q9:decide (x.n<0)=true:=BY (by omega);rw[rS (mt hm.1 λhh=>by omega)];simp only[aA,fX,KP,ι,↓reduceIte,δ,ε,μ,reduceCtorEq,h.mP,h.bB,h.dF,kc,kl,la,lb,hoka,hokb,q1,q2,q3,q4,q5,q6,q8,q9];exact rfl
  have q9:decide (x.n<0)=false:=AS (by omega);by_cases p10:x.n<=2000
  case neg=>
   have HB:decide ((2000:Int)<x.n)=true:=BY (by omega);rw[rS (mt hm.1 λhh=>by omega)];simp only[aA,fX,KP,ι,↓reduceIte,δ,ε,μ,reduceCtorEq,h.mP,h.bB,h.dF,kc,kl,la,lb,hoka,hokb,q1,q2,q3,q4,q5,q6,q8,q9,HB];exact rfl
  have HB:decide ((2000:Int)<x.n)=false:=AS (by omega);by_cases p11:x.op=9
  ·have JM:decide (x.op=9)=true:=BY p11;rw[hm.2 ⟨⟨⟨p1,p2⟩,p3,p4⟩,p5,q6,hh8,⟨p9,p10⟩,.inl p11⟩];simp only[aA,fX,KP,ι,↓reduceIte,δ,ε,μ,reduceCtorEq,h.mP,h.bB,h.dF,kc,kl,la,lb,hoka,hokb,q1,q2,q3,q4,q5,q6,q8,q9,HB,JM];exact rfl
  have JM:decide (x.op=9)=false:=AS p11;by_cases p12:x.n=0
  case neg=>
   have L9:decide (x.n=0)=false:=AS (by omega);rw[rS (mt hm.1 λhh=>by omega)];simp only[aA,fX,KP,ι,↓reduceIte,δ,ε,μ,reduceCtorEq,h.mP,h.bB,h.dF,kc,kl,la,lb,hoka,hokb,q1,q2,q3,q4,q5,q6,q8,q9,HB,JM,L9];exact rfl
  have L9:decide (x.n=0)=true:=BY (by omega);rw[hm.2 ⟨⟨⟨p1,p2⟩,p3,p4⟩,p5,q6,hh8,⟨p9,p10⟩,.inr p12⟩];simp only[aA,fX,KP,ι,↓reduceIte,δ,ε,μ,reduceCtorEq,h.mP,h.bB,h.dF,kc,kl,la,lb,hoka,hokb,q1,q2,q3,q4,q5,q6,q8,q9,HB,JM,L9];exact rfl
theorem NZ(h:bG E){v:V}{x:am}(hv:OQ v x)(hsm:x.lits.length<=4294967296):KC E 150 [v] Z (.bool (cM x)) Z:=dX λ_=>OB h hv hsm
theorem Ga(h:bG E){s:bF}:aB E 212 [.str s] Z K=K (.bool (!bL s)) Z:=by
 refine aB.of ?_;rw[aH h.abq h.YS h.acp h.aas (args':=[.str s]) (by simp only[aW,dM]),aU (by kernel_rfl)];have kc:=λ(Y:Sg)=>aa8 (Z:=Y) h (s:=s);simp only[aA,Tryz.f212,KP,↓reduceIte,ε,reduceCtorEq,kc];exact rfl
theorem FG(h:bG E){s:bF}:KC E 212 [.str s] Z (.bool (!bL s)) Z:=dX λ_=>Ga h
theorem Cr(h:bG E){a:V}{l:List bF}(ha:LS aP 9 Z a l)(hsm:l.length<=4294967296):KC E 82 [a,.fn 212 [] []] Z (.bool (!(l.all bL))) Z:=dX λ_=>by rw[l5];exact MZ (k:=212) (caps:=[]) (P:=λs=>!bL s) h ha hsm (λ_ h=>by cases h) (λy v hy hv=>by subst hv;show aB E 212 [.str y] [] _;rw[Ga h];exact⟨rfl,rfl⟩)
def Nh(s:am):Bool:=bL s.out&&s.args.all bL&&cM s
theorem UR(h:bG E){v:V}{x:am}(hv:OQ v x)(h1:x.args.length<=4294967296)(h2:x.lits.length<=4294967296):aB E 214 [v] Z K=K (.bool (!Nh x)) Z:=by
 refine aB.of ?_;have ev:=hv.snap (E:=E) Z;obtain⟨a,b,rfl,ia,ib⟩:=hv;have hoka:a.aZ=true:=aQ ia.bE;have hokb:b.aZ=true:=aQ ib.bE;rw[aH h.abo h.YQ h.acn h.aaq (args':=[.agg [.str x.out,.int .i64 x.op,a,b,.int .i64 x.n]]) (by simp only[aW,ev]),aU (by kernel_rfl)];have k1:=λ(Y:Sg)=>FG (Z:=Y) h (s:=x.out);have k2:=λ(Y:Sg)=>Cr (Z:=Y) h (ia.ls Y 9) h1;have k3:=λ(Y:Sg)=>NZ (Z:=Y) h (v:=.agg [.str x.out,.int .i64 x.op,a,b,.int .i64 x.n]) ⟨a,b,rfl,ia,ib⟩ h2;unfold Nh;cases e1:bL x.out with
 |false=>
  simp only[aA,Tryz.f214,KP,ι,↓reduceIte,δ,ε,μ,reduceCtorEq,h.dJ,h.dF,hoka,hokb,k1,e1];exact rfl
 |true=>
  cases e2:x.args.all bL with
  |false=>
   simp only[aA,Tryz.f214,KP,ι,↓reduceIte,δ,ε,μ,reduceCtorEq,h.dJ,h.bB,h.dF,hoka,hokb,k1,k2,e1,e2];exact rfl
  |true=>
   simp only[aA,Tryz.f214,KP,ι,↓reduceIte,δ,ε,μ,reduceCtorEq,h.dJ,h.bB,h.dF,hoka,hokb,k1,k2,k3,e1,e2];exact rfl
theorem FO(r:aD):lE r=(bL r.name&&decide (r.outs≠[])&&r.ins.all bL&&r.outs.all bL&&r.after.all bL&&r.steps.all Nh):=rfl
theorem UQ(h:bG E){v:V}{x:aD}(hv:JC v x)(hs:Small x):aB E 181 [v] Z K=K (.bool (lE x)) Z:=by
 refine aB.of ?_;have ev:=hv.snap (E:=E) Z;obtain⟨a,b,c,d,rfl,ia,ib,ic,id⟩:=hv;have o1:=aQ ia.bE;have o2:=aQ ib.bE;have o3:=aQ ic.bE;have o4:=aQ id.bE;have l1:=hs.ins;have l2:=hs.outs;have l3:=hs.after;have l4:=hs.steps;rw[aH h.abz h.Y0 h.acy h.aaz (args':=[.agg [.str x.name,a,b,c,d]]) (by simp only[aW,ev]),aU (by kernel_rfl)];have lb:=bT h ib;have kn:=λ(Y:Sg)=>FG (Z:=Y) h (s:=x.name);have k1:=λ(Y:Sg)=>Cr (Z:=Y) h (ia.ls Y 9) (by omega);have k2:=λ(Y:Sg)=>Cr (Z:=Y) h (ib.ls Y 9) (by omega);have k3:=λ(Y:Sg)=>Cr (Z:=Y) h (ic.ls Y 9) (by omega)
 have k4:=λ(Y:Sg)=>N9 (Z:=Y) (k:=214) (caps:=[]) (P:=λs=>!Nh s) h (id.ls Y 82) (by omega) (λ_ h=>by cases h) (λy v hy hv=>by
  have hy1:=hs.args y hy;have hy2:=hs.lits y hy;show aB E 214 [v] [] _;rw[UR h hv (by omega) (by omega)];exact⟨rfl,rfl⟩)
 rw[FO];cases e0:bL x.name with
 |false=>
  simp only[aA,Tryz.f181,KP,ι,↓reduceIte,δ,ε,μ,reduceCtorEq,h.dJ,h.bO,o1,o2,o3,o4,kn,e0];exact rfl
 |true=>
 by_cases h0:x.outs=[]
 ·have q0:decide ((x.outs.length:Int)=0)=true:=BY (by rw[h0];rfl);simp only[aA,Tryz.f181,KP,ι,↓reduceIte,δ,ε,μ,reduceCtorEq,h.dJ,h.bB,h.bO,o1,o2,o3,o4,kn,e0,lb,q0];rw[h0];exact rfl
 have q0:decide ((x.outs.length:Int)=0)=false:=AS (by have:=ej.2 h0;omega);rw[show decide (x.outs≠[])=true from BY h0]
 have hf:hZ (λj=>some (j*1,1)) (gG 3 [V.aG]) [(0,a),(1,b),(2,c)]=some [a,b,c]:=by
  rcases ia with⟨rfl,-⟩ | ⟨_,_,_,rfl,-⟩ <;> rcases ib with⟨rfl,-⟩ | ⟨_,_,_,rfl,-⟩ <;> rcases ic with⟨rfl,-⟩ | ⟨_,_,_,rfl,-⟩ <;> rfl
 have lz:∀Z,lenOf E Z 40 (.sl 1 0 3 none)=some 3:=λZ=>by unfold lenOf;rw[h.Pf]
 have i0:indexAddr E 40 (.sl 1 0 3 none) (.int .i64 0)=some (.ref 1 0):=by unfold Θ;simp only[h.Pf,h.bB];rfl
 have i1:indexAddr E 40 (.sl 1 0 3 none) (.int .i64 1)=some (.ref 1 1):=by unfold Θ;simp only[h.Pf,h.bB];rfl
 have i2:indexAddr E 40 (.sl 1 0 3 none) (.int .i64 2)=some (.ref 1 2):=by unfold Θ;simp only[h.Pf,h.bB];rfl
 have d0:decide ((0:Int)<((3:Nat):Int))=true:=rfl;have d1:decide ((1:Int)<((3:Nat):Int))=true:=rfl;have d2:decide ((2:Int)<((3:Nat):Int))=true:=rfl;have d3:decide ((3:Int)<((3:Nat):Int))=false:=rfl;have w1:wr .i64 1=1:=rfl;have w2:wr .i64 2=2:=rfl;have w3:wr .i64 3=3:=rfl;simp only[aA,Tryz.f181,KP,ι,↓reduceIte,δ,ε,ω,μ,ap,reduceCtorEq,h.dJ,h.bB,h.Pf,h.bO,o1,o2,o3,o4,kn,e0,lb,q0,hf,lz];rw[aF];cases e1:x.ins.all bL with
 |false=>
  simp only[KP,ι,↓reduceIte,δ,ε,h.bB,k1,e1,i0,d0];exact rfl
 |true=>
 simp only[KP,ι,↓reduceIte,δ,ε,Int.reduceAdd,h.bB,k1,e1,w1,i0,d0];rw[aF];cases e2:x.outs.all bL with
 |false=>
  simp only[KP,ι,↓reduceIte,δ,ε,h.bB,k2,e2,i1,d1];exact rfl
 |true=>
 simp only[KP,ι,↓reduceIte,δ,ε,Int.reduceAdd,h.bB,k2,e2,w2,i1,d1];rw[aF];cases e3:x.after.all bL with
 |false=>
  simp only[KP,ι,↓reduceIte,δ,ε,h.bB,k3,e3,i2,d2];exact rfl
 |true=>
 simp only[KP,ι,↓reduceIte,δ,ε,Int.reduceAdd,h.bB,k3,e3,w3,i2,d2];rw[aF];have e4:x.steps.all Nh = !(x.steps.any λs=>!Nh s):=by rw[<- l5,Bool.not_not]
 rw[e4];simp only[KP,ι,↓reduceIte,δ,ε,reduceCtorEq,h.gA,h.bO,k4,d3];exact rfl
theorem TS(h:bG E){v:V}{x:aD}(hv:JC v x)(hs:Small x):KC E 181 [v] Z (.bool (lE x)) Z:=dX λ_=>UQ h hv hs
theorem RN(h:bG E){a:V}{l:List bF}(ha:LS aP 9 Z a l)(hsm:l.length<=4294967296):aB E 215 [a] Z K=K (.bool (lH l)) Z:=by
 refine aB.of ?_;obtain⟨a',ea,ia⟩:=kS h ha;rw[aH h.abn h.YP h.acm h.aap (args':=[a']) (by simp only[aW,ea]),aU (by kernel_rfl)];have la:=bT h ia;simp only[aA,Tryz.f215,KP,↓reduceIte,ε,reduceCtorEq,la];refine aV (λi F Y=>Y=[]/\F.get 0=a'/\F.get 5=a'/\F.get 6=.int .i64 (l.length:Int)/\F.get 7=.int .i64 (i:Int)/\∀(j:Nat)(y:bF),j<i->l[j]?=some y->y ∉ l.take j) l.length ?_ ?_ l.length 0 _ _ (by omega) ⟨rfl,(fZ (by simp+decide only[GS,aj]) (λj y hj=>by omega))⟩
 ·rintro i F Y hi ⟨rfl,g0,g5,g6,g7,hp⟩ next
  obtain⟨x,hx⟩:∃x,l[i]?=some x:=⟨_,AT hi⟩;obtain⟨g,e1⟩:=g_ h ia hx;obtain⟨w,hw,iw⟩:=xV h ia (b:=i) (by omega);have hlt:=dR hi;have hadd:=bW i (by omega);have kc:=λ(Y:Sg)=>DF (Z:=Y) h (s:=x) (iw.ls Y 9) (by rw[bl];omega);rw[aF];by_cases hm:x∈l.take i
  ·have hs:=BY hm;simp only[KP,ι,↓reduceIte,δ,ε,reduceCtorEq,h.dJ,g0,g5,g6,g7,hlt,e1,hw,kc,hs];rw[CM hx hm];exact rfl
  ·have hs:=AS hm;simp only[KP,ι,↓reduceIte,δ,ε,reduceCtorEq,h.dJ,g0,g5,g6,g7,hlt,e1,hw,kc,hs,hadd];refine next _ _ ⟨rfl,(fZ (by simp+decide only[GS,g0,g5,g6,aj]) (λj y hj hy=>?_))⟩
   rcases cr j i with g | g
   ·exact hp j y g hy
   ·obtain rfl:j=i:=by omega
    rw[hx]at hy;cases hy;exact hm
 ·rintro F Y ⟨rfl,g0,g5,g6,g7,hp⟩;have hlt:=dW (bt l.length);rw[aF];simp only[KP,↓reduceIte,ε,g6,g7,hlt];rw[Az λj y hy=>hp j y (AI.1 hy).1 hy];exact rfl
theorem DE(h:bG E){a:V}{l:List bF}(ha:LS aP 9 Z a l)(hsm:l.length<=4294967296):KC E 215 [a] Z (.bool (lH l)) Z:=dX λ_=>RN h ha hsm
theorem D4(h:bG E):mM E 24 true .aG .aG=some true:=by unfold mM;rw[h.bB]
theorem DZ(h:bG E){g:Bool}{rs:List (List V)}{f:Bool}:mM E 24 true (.bV g rs f) .aG=some false:=by unfold mM;rw[h.bB]
theorem tZ(h:bG E){a:V}{l:List bF}(ia:IS aP a l)(hl:l.length<=1000):aB E 91 [a] Z λv σ'=>aY aP 9 σ' v l/\Kp Z σ'/\∀b,aO v=some b->Z.length<=b:=by
 rw[cJ h.hs91 h.sp91 h.fn91 h.md91,aU (by kernel_rfl)];rcases ia with⟨rfl,rfl⟩ | ⟨g,rs,full,rfl,ha⟩
 ·simp only[aA,Tryz.f91,KP,↓reduceIte,ε,reduceCtorEq,D4 h];exact⟨.inl ⟨rfl,rfl⟩,λ_ _ h=>h,λb hb=>by cases hb⟩
 ·obtain⟨rs',e,ha'⟩:=sA (L:=aP) (x:=.bV g rs full) (l:=l) (.inr ⟨g,rs,full,rfl,ha⟩) (Z++[ζ 9 [] true]);obtain⟨w',τ',h1,h2,h3,h4,h5⟩:=kB (ats:=#[24,24]) (Z:=Z++[ζ 9 [] true]) (w:=.sl Z.length 0 0 none) (l:=[]) (L:=aP) h.bB rfl h.dJ rfl (by decide) (kF h) rfl (.inr ⟨Z.length,[],true,rfl,aL,.nil⟩) e ha' (dO (b:=1000) (by decide) (by simp only[aq];omega));rw[cz]at h2;simp only[aA,Tryz.f91,KP,↓reduceIte,δ,ε,ω,reduceCtorEq,h.dJ,h.bB,DZ h,h1,hZ,gG,gz];refine⟨h2,λc o hc=>h3 _ _ (aI hc) λe=>?_,λb hb=>?_⟩
  ·cases e;exact absurd (AI.1 hc).1 (bt _)
  ·rcases h5 b hb with g | g
   ·cases g;exact OF _
   ·simp only[By,IT,aq]at g;omega
theorem H7{Z:Sg}{ty:Nat->Option Ty}{g:Bool}{b n t m:Nat}{cs:List V}{ex:Bool}{i:Ty}(hb:Z[b]?=some (.cells t cs ex))(hty:ty t=some i)(hlen:n*i.size<=cs.length)
  (hi:∀c∈cs.take (n*i.size),ge c=true/\cI g c=true):∃full,bA Z ty g (m+2) (.sl b 0 n none)=some (.bV g (rows i.size n (cs.take (n*i.size))) full):=by
 have hm:aW (λv=>match bA Z ty g (m+1) v with
   |some v=>if cI g v then some v else Ax.no "snap: borrowed"
   |none=>none) ((cs.drop 0).take (n*i.size))=some (cs.take (n*i.size)):=by
  rw[ez];refine gH λx hx=>?_;rw[jQ (hi x hx).1];simp only[(hi x hx).2,bf]
 refine⟨ex&&decide (0<i.size)&&(0+n*i.size==cs.length),?_⟩;rw[bA];simp only[hb,hty];rw[az (by omega)]
 exact b8 (λo=>match o with
  |some l=>some (V.bV g (rows i.size n l) (ex&&decide (0<i.size)&&(0+n*i.size==cs.length)))
  |none=>none) hm
theorem Nn(h:bG E){Z:Sg}{w:V}{l:List bF}{m:Nat}(ow:aY aP 9 Z w l):∃w',bA Z E.ty true (m+2) w=some w'/\IS aP w' l:=by
 rcases ow with⟨rfl,rfl⟩ | ⟨b,rs,ex,rfl,hb,ha⟩
 ·exact⟨.aG,rfl,.inl ⟨rfl,rfl⟩⟩
 ·have hfl:=Lay.flat ha;have hfl:rs.flatten.length=l.length*1:=hfl;have htk:rs.flatten.take (l.length*1)=rs.flatten:=ah (by omega)
  obtain⟨full,e⟩:=H7 (g:=true) (n:=l.length) (m:=m) hb h.dJ (show l.length*1<=_ by omega) (λc hcm=>by
   rw[show rs.flatten.take (l.length*1)=rs.flatten from htk]at hcm;obtain⟨r,hr,hcr⟩:=List.mem_flatten.1 hcm;obtain⟨x,-,hp⟩:=ha.mem hr;have:=aP.im r x hp c hcr;exact⟨this,bJ this⟩)
  refine⟨_,e,.inr ⟨true,rs,full,?_,ha⟩⟩;show V.bV true (rows 1 l.length (rs.flatten.take (l.length*1))) full=_;rw[htk,<- ha.len];exact b8 (λz=>V.bV true z full) (mS (sz:=1) rs (Lay.lens ha))
theorem xU{Z:Sg}{f k t:Nat}{cs cs':List V}{ex:Bool}(hb:Z[k]?=some (.cells t cs ex))(hm:aW (λv=>match bA Z E.ty true 11 v with
   |some v=>if cI true v then some v else Ax.no "snap: borrowed"
   |none=>none) cs=some cs'):aR Z E.ty true (.fn f [] [.ref k 0])=some (.fn f [] [.cR true cs']):=by
 have e:bA Z E.ty true 12 (.ref k 0)=some (.cR true cs'):=by
  rw[bA];simp only[hb,ez]
  exact b8 (λo=>match o with
   |some l=>some (V.cR true l)
   |none=>none) hm
 have e1:aR.one Z E.ty true (.ref k 0)=some (.cR true cs'):=by
  unfold aR.one;rw[show dN=12 from rfl,e];rfl
 simp only[aR,aW,e1]
theorem CX(h:bG E){Z:Sg}{w:V}{l:List bF}{f k t:Nat}{ex:Bool}(hb:Z[k]?=some (.cells t [w] ex))(ow:aY aP 9 Z w l):∃w',aR Z E.ty true (.fn f [] [.ref k 0])=some (.fn f [] [.cR true [w']])/\IS aP w' l:=by
 obtain⟨w',e,iw⟩:=Nn (m:=9) h ow;refine⟨w',xU hb ?_,iw⟩;simp only[aW,e,bJ iw.bE,bf]
theorem Kb{Z:Sg}{f k t:Nat}{cs:List V}{ex:Bool}(hb:Z[k]?=some (.cells t cs ex))(hc:∀c∈cs,ge c=true):aR Z E.ty true (.fn f [] [.ref k 0])=some (.fn f [] [.cR true cs]):=
 xU hb (gH λx hx=>by rw[show 11=10+1 from rfl,jQ (hc x hx)];simp only[bJ (hc x hx),bf])
theorem Jq(h:bG E){w:V}{l:List bF}{y:bF}{g:Bool}(iw:IS aP w l)(hsm:l.length<=4294967296):aB E 216 [.str y,.cR g [w]] [] K=K (.bool (!decide (y∈l))) []:=by
 refine aB.of ?_;have hi:ge (.cR g [w])=true:=rfl;have ew:=bZ (Z:=[]) (ty:=E.ty) hi (bJ hi);rw[aH h.abm h.YO h.ack h.aao (args':=[.str y,.cR g [w]]) (by simp only[aW,dM,ew]),aU (by kernel_rfl)];have kc:=λ(Y:Sg)=>DF (Z:=Y) h (s:=y) (iw.ls Y 9) hsm;simp only[aA,Tryz.f216,KP,ι,↓reduceIte,δ,ε,μ,reduceCtorEq,h.bB,kc];exact rfl
theorem RS(h:bG E){a b c d:V}{l:List bF}{n y:bF}{g:Bool}(ia:IS aP a l)(hb:ge b=true)(hc:ge c=true)(hd:ge d=true)(hsm:l.length<=4294967296):aB E 217 [.str y,.cR g [.str n,a,b,c,d]] [] K=K (.bool (decide (y∈l))) []:=by
 refine aB.of ?_;have hi:ge (.cR g [.str n,a,b,c,d])=true:=rfl;have ew:=bZ (Z:=[]) (ty:=E.ty) hi (bJ hi);rw[aH h.abl h.YN h.acj h.aan (args':=[.str y,.cR g [.str n,a,b,c,d]]) (by simp only[aW,dM,ew]),aU (by kernel_rfl)];have kc:=λ(Y:Sg)=>DF (Z:=Y) h (s:=y) (ia.ls Y 9) hsm;simp only[aA,Tryz.f217,KP,ι,↓reduceIte,δ,ε,μ,reduceCtorEq,h.bB,h.bO,kc];exact rfl
theorem aY.set{Z:Sg}{w:V}{l:List bF}{k:Nat}{y:O}(ow:aY aP 9 Z w l)(hk:aO w≠some k):aY aP 9 (Z.set k y) w l:=ow.keep λc o hc ho=>by
 rw[aa (λe=>hk (by rw[e];exact hc))];exact ho
theorem Qr(h:bG E){x:aD}{a b c d:V}(ia:IS aP a x.ins)(ib:IS aP b x.outs)(id:IS fB d x.steps)(hs:Small x){kb:Nat}{Y:Sg}{w:V}(b0:Y[0]?=some (ζ 46 [.str x.name,a,b,c,d] true))(k0:Y[kb]?=some (.cells 24 [w] true))(ow:aY aP 9 Y w x.ins)(F:FT)(g1:F.get 1=.ref 0 0)(g3:F.get 3=.ref kb 0)(g4:F.get 4=.fn 216 [] [.ref kb 0])
  (hk:∀σ',K (.bool (iU x.ins x.steps&&x.outs.all λo=>decide (o∈x.ins++x.steps.map dt))) σ'):R E (η [1,1,1,1,1] (aA hI).code) [] ⟨63,F⟩ Y (nV E (aA hI).results K):=by
 have l1:=hs.ins;have l2:=hs.outs;have l4:=hs.steps;have ld:=mE h id;simp only[aA,hI,KP,ι,↓reduceIte,ε,reduceCtorEq,h.gA,h.bO,η,g1,b0,ld];refine aV (λi F Y=>F.get 1=.ref 0 0/\F.get 3=.ref kb 0/\F.get 4=.fn 216 [] [.ref kb 0]/\F.get 36=d/\F.get 37=.int .i64 (x.steps.length:Int)/\F.get 38=.int .i64 (i:Int)/\Y[0]?=some (ζ 46 [.str x.name,a,b,c,d] true)/\∃w,Y[kb]?=some (.cells 24 [w] true)/\aY aP 9 Y w (x.ins++(x.steps.take i).map dt)/\iU x.ins x.steps=iU (x.ins++(x.steps.take i).map dt) (x.steps.drop i)) x.steps.length ?_ ?_ x.steps.length 0 _ _ (by omega) (sF (by simp+decide only[GS,g1,g3,g4,aj]) ⟨b0,w,k0,by simpa using ow,by simp⟩)
 ·rintro i F Y hi ⟨g1,g3,g4,g36,g37,g38,b0,w,k0,ow,hst⟩ next
  obtain⟨s,hsi⟩:∃y,x.steps[i]?=some y:=⟨_,AT hi⟩;obtain⟨g,p1,p2,e1,i1,i2⟩:=wT h id hsi;have a8:=hs.args s (ag hsi);have o1:=aQ i1.bE;have o2:=aQ i2.bE;have hlt:=dR hi;have hadd:=bW i (by omega)
  have hdrop:x.steps.drop i=s::x.steps.drop (i+1):=by
   obtain⟨hj,rfl⟩:=AI.1 hsi;exact jv hj
  have htake:x.ins++(x.steps.take (i+1)).map dt=x.ins++(x.steps.take i).map dt++[s.out]:=by
   rw[dz,hsi];simp
  have hkl:(x.ins++(x.steps.take i).map dt).length<=100:=by
   rw[By,bw,bl];omega
  rw[hdrop,iU]at hst;rw[htake]at next
  generalize x.ins++(x.steps.take i).map dt=kn at *;rw[hst]at hk;have b1:=aI (x:=ζ 82 [.str s.out,.int .i64 s.op,p1,p2,.int .i64 s.n] true) b0;have k1:=aI (x:=ζ 82 [.str s.out,.int .i64 s.op,p1,p2,.int .i64 s.n] true) k0;have s1:(Y++[ζ 82 [.str s.out,.int .i64 s.op,p1,p2,.int .i64 s.n] true])[Y.length]?=some (ζ 82 [.str s.out,.int .i64 s.op,p1,p2,.int .i64 s.n] true):=aL;have ow1:=ow.app [ζ 82 [.str s.out,.int .i64 s.op,p1,p2,.int .i64 s.n] true];rw[aF];simp only[KP,ι,Ξ,↓reduceIte,δ,ε,μ,h.bB,h.dF,g3,g36,g37,g38,hlt,e1,o1,o2,aL,bP];generalize Y++[ζ 82 [.str s.out,.int .i64 s.op,p1,p2,.int .i64 s.n] true]=τ1 at *;generalize Y.length=y at *;have kc:=DF (Z:=τ1) h (s:=s.out) ow1.ls (by omega);obtain⟨w',es,iw⟩:=CX (f:=216) h k1 ow1
  have kf:=dX (λK=>sH (Z:=τ1) (K:=K) (k:=216) (caps:=[.cR true [w']]) (P:=λy=>!decide (y∈kn)) h (i1.ls τ1 9) (by omega) (λc hc=>by cases hc with | head=>rfl | tail _ hc=>cases hc) (λy v hy hv=>by
   subst hv;show aB E 216 [.str y,.cR true [w']] [] _;rw[Jq h iw (by omega)];exact⟨rfl,rfl⟩) es)
  by_cases m1:s.out∈kn
  ·have q1:=BY m1;rw[q1]at hk;simp only[KP,ι,↓reduceIte,δ,ε,reduceCtorEq,h.dJ,h.dF,k1,s1,kc,q1];exact hk _
  have q1:=AS m1;cases m2:s.args.any λy=>!decide (y∈kn) with
  |true=>
   rw[show s.args.all (λa=>decide (a∈kn))=false from by rw[<- gu,l5,m2],Bool.and_false,l8,l8]at hk;simp only[KP,ι,↓reduceIte,δ,ε,reduceCtorEq,h.dJ,h.bB,h.dF,g4,k1,s1,kc,kf,q1,m2];exact hk _
  |false=>
  rw[q1,show s.args.all (λa=>decide (a∈kn))=true from by rw[<- Bool.not_eq_false',l5,m2],mg,jd,jd]at hst;have b2:=aI (x:=ζ 9 [.str s.out] true) b1;have k2:=aI (x:=ζ 9 [.str s.out] true) k1;obtain⟨w2,τ2,ha2,ow2,St,-,fr2⟩:=kB (ats:=#[24,24]) (m:=[s.out]) (new:=[[.str s.out]]) h.bB rfl h.dJ rfl (by decide) (kF h) rfl (ow1.app [.cells 9 [.str s.out] true]) (mI rfl) (.one rfl) (dO (b:=1000) (by decide) (by simp only[IT,aq];omega));have nk:=lU (w:=w) k2 (by decide) (ow1.app [.cells 9 [.str s.out] true]);have n0:=lU (w:=w) b2 (by decide) (ow1.app [.cells 9 [.str s.out] true]);have k3:=St _ _ k2 nk;have b3:=St _ _ b2 n0;have nk2:aO w2≠some kb:=lU k3 (by decide) ow2;obtain⟨c1,c2⟩:=rQ ow2
  have hkb:kb≠0:=λe=>by
   rw[e,b0]at k0;cases k0
  have hlen:=(AI.1 k3).1;simp only[KP,ι,Ξ,↓reduceIte,δ,ε,ω,ap,reduceCtorEq,h.dJ,h.bB,h.dF,g3,g4,g38,k1,s1,kc,kf,q1,m2,lM,ha2,k3,c1,c2,hadd];refine next _ _ ⟨?_,?_,?_,?_,?_,?_,?_,w2,?_,?_,?_⟩
  ·simp+decide only[GS,g1]
  ·simp+decide only[GS,g3]
  ·simp+decide only[GS,g4]
  ·simp+decide only[GS,g36]
  ·simp+decide only[GS,g37]
  ·simp+decide only[GS]
  ·rw[aa hkb];exact b3
  ·rw[br hlen]
  ·exact aY.set ow2 nk2
  ·exact hst
 ·rintro F Y ⟨g1,g3,g4,g36,g37,g38,b0,w,k0,ow,hst⟩;rw[ah (OF _)]at ow hst;rw[show x.steps.drop x.steps.length=[] from List.drop_length,iU]at hst
  have hkl:(x.ins++x.steps.map dt).length<=100:=by
   rw[By,bw];omega
  generalize x.ins++x.steps.map dt=kn at *;obtain⟨w',es,iw⟩:=CX (f:=216) h k0 ow
  have kf:=dX (λK=>sH (Z:=Y) (K:=K) (k:=216) (caps:=[.cR true [w']]) (P:=λy=>!decide (y∈kn)) h (ib.ls Y 9) (by omega) (λc hc=>by cases hc with | head=>rfl | tail _ hc=>cases hc) (λy v hy hv=>by
   subst hv;show aB E 216 [.str y,.cR true [w']] [] _;rw[Jq h iw (by omega)];exact⟨rfl,rfl⟩) es)
  have hlt:=dW (bt x.steps.length);rw[hst,jd]at hk;have e:(x.outs.all λo=>decide (o∈kn)) = !(x.outs.any λy=>!decide (y∈kn)):=by rw[<- l5,Bool.not_not]
  rw[e]at hk;rw[aF];simp only[KP,ι,↓reduceIte,δ,ε,reduceCtorEq,h.bB,h.bO,g1,g4,g37,g38,hlt,b0,kf];exact hk _
theorem UN(h:bG E){v:V}{x:aD}(hv:JC v x)(hs:Small x):aB E 182 [v] Z K=K (.bool (fN x)) Z:=by
 refine aB.of ?_;have ev:=hv.snap (E:=E) Z;obtain⟨a,b,c,d,rfl,ia,ib,ic,id⟩:=hv;have o1:=aQ ia.bE;have o2:=aQ ib.bE;have o3:=aQ ic.bE;have o4:=aQ id.bE;have l1:=hs.ins;have l2:=hs.outs;have l3:=hs.after;rw[aH h.aby h.YZ h.acw h.aay (args':=[.agg [.str x.name,a,b,c,d]]) (by simp only[aW,ev]),aU (by kernel_rfl)];have k1:=λ(Y:Sg)=>DE (Z:=Y) h (ia.ls Y 9) (by omega);have k2:=λ(Y:Sg)=>DE (Z:=Y) h (ib.ls Y 9) (by omega);have k3:=λ(Y:Sg)=>DE (Z:=Y) h (ic.ls Y 9) (by omega);have kc:=λ(Y:Sg)=>DF (Z:=Y) h (s:=x.name) (ic.ls Y 9) (by omega)
 have rest:=λ(hn:(iU x.ins x.steps&&x.outs.all λo=>decide (o∈x.ins++x.steps.map dt))=fN x) kb Y w F b0 k0 ow g1 g3 g4=>Qr (K:=λv σ1=>match cQ σ1 E.ty false v with
   |some v=>v=.bool (fN x)
   |none=>False) (c:=c) h ia ib id hs (kb:=kb) (Y:=Y) (w:=w) b0 k0 ow F g1 g3 g4 λ_=>by rw[hn];exact rfl
 generalize hC:η [1,1,1,1,1] (aA hI).code=C at rest;cases e0:lH x.ins with
 |true=>
  simp only[aA,hI,KP,ι,↓reduceIte,δ,ε,μ,reduceCtorEq,h.bB,h.bO,o1,o2,o3,o4,k1,e0];show du false=du (fN x);unfold fN;simp[e0]
 |false=>
 cases e1:lH x.outs with
 |true=>
  simp only[aA,hI,KP,ι,↓reduceIte,δ,ε,μ,reduceCtorEq,h.bB,h.bO,o1,o2,o3,o4,k1,k2,e0,e1];show du false=du (fN x);unfold fN;simp[e0,e1]
 |false=>
 cases e2:lH x.after with
 |true=>
  simp only[aA,hI,KP,ι,↓reduceIte,δ,ε,μ,reduceCtorEq,h.bB,h.bO,o1,o2,o3,o4,k1,k2,k3,e0,e1,e2];show du false=du (fN x);unfold fN;simp[e0,e1,e2]
 |false=>
 cases e3:decide (x.name∈x.after) with
 |true=>
  simp only[aA,hI,KP,ι,↓reduceIte,δ,ε,μ,reduceCtorEq,h.dJ,h.bB,h.bO,o1,o2,o3,o4,k1,k2,k3,kc,e0,e1,e2,e3];show du false=du (fN x);unfold fN;rw[e0,e1,e2,e3];rfl
 |false=>
 rw[show (aA hI).code=.seq (η [0] (aA hI).code) (.seq (η [1,0] (aA hI).code) (.seq (η [1,1,0] (aA hI).code) (.seq (η [1,1,1,0] (aA hI).code) (.seq (η [1,1,1,1,0] (aA hI).code) C)))) from by rw[<- hC];rfl];simp only[aA,hI,KP,ι,↓reduceIte,δ,ε,μ,reduceCtorEq,h.dJ,h.bB,h.bO,η,o1,o2,o3,o4,k1,k2,k3,kc,e0,e1,e2,e3];refine aK (tZ h ia (by omega)) ?_;rintro w Y ⟨ow,kp,-⟩;have b0:Y[0]?=some (ζ 46 [.str x.name,a,b,c,d] true):=kp 0 _ rfl;obtain⟨c1,c2⟩:=rQ ow;have b1:=aI (x:=ζ 24 [w] true) b0;have kk:(Y++[ζ 24 [w] true])[Y.length]?=some (ζ 24 [w] true):=aL
 have es:=Kb (E:=E) (f:=217) b1 (λy hy=>by
  simp only[IN,bz,ek]at hy;rcases hy with rfl | rfl | rfl | rfl | rfl
  ·rfl
  ·exact ia.bE
  ·exact ib.bE
  ·exact ic.bE
  ·exact id.bE)
 have kf:=dX (λK=>sH (Z:=Y++[ζ 24 [w] true]) (K:=K) (k:=217) (caps:=[.cR true [.str x.name,a,b,c,d]]) (P:=λy=>decide (y∈x.ins)) h (ib.ls _ 9) (by omega) (λc hc=>by cases hc with | head=>rfl | tail _ hc=>cases hc) (λy v hy hv=>by
  subst hv;show aB E 217 [.str y,.cR true [.str x.name,a,b,c,d]] [] _;rw[RS h ia ib.bE ic.bE id.bE (by omega)];exact⟨rfl,rfl⟩) es)
 have eo:(x.outs.all λo=>!decide (o∈x.ins)) = !(x.outs.any λy=>decide (y∈x.ins)):=by rw[List.not_any_eq_all_not]
 cases e4:x.outs.any λy=>decide (y∈x.ins) with
 |true=>
  simp only[KP,ι,Ξ,↓reduceIte,δ,ε,reduceCtorEq,h.bB,h.bO,b1,kf,e4,c1,c2,aL,bP];show du false=du (fN x);unfold fN;rw[eo,e0,e1,e2,e3,e4];rfl
 |false=>
 simp only[KP,ι,Ξ,↓reduceIte,δ,ε,reduceCtorEq,h.bB,h.bO,b1,kf,e4,c1,c2,aL,bP];refine rest ?_ Y.length _ w _ b1 kk (ow.app _) ?_ ?_ ?_
 ·unfold fN;rw[eo,e0,e1,e2,e3,e4];simp
 ·simp+decide only[GS]
 ·simp+decide only[GS]
 ·simp+decide only[GS]
theorem TO(h:bG E){v:V}{x:aD}(hv:JC v x)(hs:Small x):KC E 182 [v] Z (.bool (fN x)) Z:=dX λ_=>UN h hv hs
theorem US(h:bG E){v:V}{x:aD}(hv:JC v x)(hs:Small x):aB E 149 [v] Z K=K (.int .i64 (bD x)) Z:=by
 refine aB.of ?_;have ev:=hv.snap (E:=E) Z;obtain⟨a,b,c,d,rfl,ia,ib,ic,id⟩:=hv;have o1:=aQ ia.bE;have o2:=aQ ib.bE;have o3:=aQ ic.bE;have o4:=aQ id.bE;have la:=bT h ia;have lb:=bT h ib;have lc:=bT h ic;have ld:=mE h id;rw[aH h.abH h.Y8 h.acF h.aaG (args':=[.agg [.str x.name,a,b,c,d]]) (by simp only[aW,ev]),aU (by kernel_rfl)];have k1:=λ(Y:Sg)=>TS (Z:=Y) h (v:=.agg [.str x.name,a,b,c,d]) ⟨a,b,c,d,rfl,ia,ib,ic,id⟩ hs;have k2:=λ(Y:Sg)=>TO (Z:=Y) h (v:=.agg [.str x.name,a,b,c,d]) ⟨a,b,c,d,rfl,ia,ib,ic,id⟩ hs;cases e1:lE x with
 |false=>
  simp only[aA,rz,KP,ι,↓reduceIte,δ,ε,μ,h.bO,o1,o2,o3,o4,k1,e1];show fj .i64 1=fj .i64 (bD x);rw[show bD x=1 from by unfold bD;rw[az e1]]
 |true=>
 by_cases p0:8<x.ins.length
 ·have q0:decide ((8:Int)<(x.ins.length:Int))=true:=BY (by omega);simp only[aA,rz,KP,ι,↓reduceIte,δ,ε,μ,reduceCtorEq,h.bB,h.bO,o1,o2,o3,o4,la,k1,e1,q0];show fj .i64 4=fj .i64 (bD x);rw[show bD x=4 from by unfold bD;rw[an (by rw[e1];simp)];rw[az (by unfold long;rw[BY p0];simp)]]
 have q0:decide ((8:Int)<(x.ins.length:Int))=false:=AS (by omega);by_cases p1:4<x.outs.length
 ·have q1:decide ((4:Int)<(x.outs.length:Int))=true:=BY (by omega);simp only[aA,rz,KP,ι,↓reduceIte,δ,ε,μ,reduceCtorEq,h.bB,h.bO,o1,o2,o3,o4,la,lb,k1,e1,q0,q1];show fj .i64 4=fj .i64 (bD x);rw[show bD x=4 from by unfold bD;rw[an (by rw[e1];simp)];rw[az (by unfold long;rw[BY p1];simp)]]
 have q1:decide ((4:Int)<(x.outs.length:Int))=false:=AS (by omega);by_cases p2:8<x.after.length
 ·have q2:decide ((8:Int)<(x.after.length:Int))=true:=BY (by omega);simp only[aA,rz,KP,ι,↓reduceIte,δ,ε,μ,reduceCtorEq,h.bB,h.bO,o1,o2,o3,o4,la,lb,lc,k1,e1,q0,q1,q2];show fj .i64 4=fj .i64 (bD x);rw[show bD x=4 from by unfold bD;rw[an (by rw[e1];simp)];rw[az (by unfold long;rw[BY p2];simp)]]
 have q2:decide ((8:Int)<(x.after.length:Int))=false:=AS (by omega);by_cases p3:12<x.steps.length
 ·have q3:decide ((12:Int)<(x.steps.length:Int))=true:=BY (by omega);simp only[aA,rz,KP,ι,↓reduceIte,δ,ε,μ,reduceCtorEq,h.bB,h.gA,h.bO,o1,o2,o3,o4,la,lb,lc,ld,k1,e1,q0,q1,q2,q3];show fj .i64 4=fj .i64 (bD x);rw[show bD x=4 from by unfold bD;rw[an (by rw[e1];simp)];rw[az (by unfold long;rw[BY p3];simp)]]
 have q3:decide ((12:Int)<(x.steps.length:Int))=false:=AS (by omega);cases e2:fN x with
 |false=>
  simp only[aA,rz,KP,ι,↓reduceIte,δ,ε,μ,reduceCtorEq,h.bB,h.gA,h.bO,o1,o2,o3,o4,la,lb,lc,ld,k1,k2,e1,q0,q1,q2,q3,e2];show fj .i64 2=fj .i64 (bD x);rw[show bD x=2 from by unfold bD;rw[an (by rw[e1];simp)];rw[an (by unfold long;rw[AS p0,AS p1,AS p2,AS p3];simp)];rw[az e2]]
 |true=>
 simp only[aA,rz,KP,ι,↓reduceIte,δ,ε,μ,reduceCtorEq,h.bB,h.gA,h.bO,o1,o2,o3,o4,la,lb,lc,ld,k1,k2,e1,q0,q1,q2,q3,e2];show fj .i64 0=fj .i64 (bD x);rw[show bD x=0 from by unfold bD;rw[an (by rw[e1];simp)];rw[an (by unfold long;rw[AS p0,AS p1,AS p2,AS p3];simp)];rw[an (by rw[e2];simp)]]
theorem TZ(h:bG E){v:V}{x:aD}(hv:JC v x)(hs:Small x):KC E 149 [v] Z (.int .i64 (bD x)) Z:=dX λ_=>US h hv hs
def SM(E:Env)(es:List (V × V))(get:bF->Option V):Prop:=(∀e∈es,(∃k,e.1=.str k)/\ge e.2=true)/\∀k,jA (dG E 9) (.str k) es=some (get k)
theorem cH(h:bG E)(a b:bF):dG E 9 (.str a) (.str b)=some (Ax.seq a b):=by unfold dG;rw[h.dJ]
theorem Kg:SM E [] λ_=>none:=⟨λ_ h=>(by cases h),λ_=>rfl⟩
theorem GC(h:bG E){v:V}(k:bF)(hv:ge v=true):∀{es:List (V × V)}{get:bF->Option V},SM E es get->∃es',kX (dG E 9) (.str k) v es=some es'/\SM E es' λq=>if q=k then some v else get q
 | [],get,hs=>by
  refine⟨[(.str k,v)],rfl,λe he=>?_,λq=>?_⟩
  ·rw[cj.1 he];exact⟨⟨k,rfl⟩,hv⟩
  ·show _=some (if q=k then some v else get q);have e0:none=get q:=dh (hs.2 q);rw[jA,cH h];by_cases hq:q=k
   ·rw[iX hq,az hq]
   ·rw[gW hq,an hq,<- e0];rfl
 |(k0,v0)::r,get,hs=>by
  obtain⟨⟨s0,e0⟩,i0⟩:=hs.1 _ (No ..);dsimp only at e0 i0;subst e0;by_cases hk:k=s0
  ·refine⟨(.str k,v)::r,by rw[kX,cH h,iX hk],λe he=>?_,λq=>?_⟩
   ·rcases IN.1 he with rfl | he
    ·exact⟨⟨k,rfl⟩,hv⟩
    ·exact hs.1 e (ae _ he)
   ·have:=hs.2 q;show _=some (if q=k then some v else get q);rw[jA,cH h]at this ⊢;by_cases hq:q=k
    ·rw[iX hq,az hq]
    ·rw[gW (show q≠s0 by rw[<- hk];exact hq)]at this;rw[gW hq,an hq];exact this
  ·have hs':SM E r λq=>if q=s0 then (match jA (dG E 9) (.str q) r with | some y=>y | none=>none) else get q:=by
    refine⟨λe he=>hs.1 e (ae _ he),λq=>?_⟩;have:=hs.2 q;rw[jA,cH h]at this;show _=some (if q=s0 then (match jA (dG E 9) (.str q) r with | some y=>y | none=>none) else get q);by_cases hq:q=s0
    ·rw[az hq]
     have tot:∀(l:List (V × V)),(∀e∈l,∃k,e.1=ab k)->∃y,jA (dG E 9) (.str q) l=some y:=by
      intro l
      induction l with
      |nil=>intro _;exact⟨none,rfl⟩
      |cons e l ih=>
       intro hl;obtain⟨k1,e1⟩:=hl _ (No ..);obtain⟨a,b⟩:=e;dsimp only at e1;subst e1;rw[jA,cH h];by_cases h1:q=k1
       ·rw[iX h1];exact⟨_,rfl⟩
       ·rw[gW h1];exact ih λe he=>hl e (ae _ he)
     obtain⟨y,hy⟩:=tot r λe he=>(hs.1 e (ae _ he)).1;rw[hy]
    ·rw[an hq];rw[gW hq]at this;exact this
   obtain⟨r',e1,s1⟩:=GC h k hv hs';refine⟨(.str s0,v0)::r',by rw[kX,cH h,gW hk];simp only[e1],λe he=>?_,λq=>?_⟩
   ·rcases IN.1 he with rfl | he
    ·exact⟨⟨s0,rfl⟩,i0⟩
    ·exact s1.1 e he
   ·have:=hs.2 q;show _=some (if q=k then some v else get q);rw[jA,cH h]at this ⊢;by_cases hq:q=s0
    ·rw[iX hq]at this ⊢;rw[an (show q≠k by rw[hq];exact kg hk)];exact this
    ·rw[gW hq];have h2:=s1.2 q;dsimp only at h2;rw[an hq]at h2;exact h2
def SB(E:Env)(es:List (V × V))(p:bF->Bool):Prop:=SM E es λk=>if p k=true then some (.bool true) else none
theorem P4:SB E [] λ_=>false:=Kg
theorem Ww(h:bG E){es:List (V × V)}{p:bF->Bool}(hs:SB E es p)(k:bF):∃es',kX (dG E 9) (.str k) (.bool true) es=some es'/\SB E es' λq=>p q||decide (q=k):=by
 obtain⟨es',h1,h2⟩:=GC h (v:=.bool true) k rfl hs;refine⟨es',h1,h2.1,λq=>(h2.2 q).trans ?_⟩;show some (if q=k then some (du true) else if p q=true then some (du true) else none)=some (if (p q||decide (q=k))=true then some (du true) else none);by_cases hq:q=k
 ·rw[az hq,BY hq,Bool.or_true,az rfl]
 ·rw[an hq,AS hq,Bool.or_false]
theorem SB.congr{es:List (V × V)}{p q:bF->Bool}(hs:SB E es p)(e:∀k,p k=q k):SB E es q:=by
 rwa [show p=q from funext e]at hs
theorem GZ(h:bG E){Z:Sg}{x:V}{es:List (V × V)}{p:bF->Bool}(hx:bm Z x=some es)(hs:SB E es p)(k:bF):lookup E Z 109 x (.str k) false=some (.bool (p k)):=by
 have hk:eH E 9 (.str k)=true:=by unfold eH;rw[h.dJ]
 unfold pj;simp only[h.uD,h.Ex,hk,hx,hs.2 k,dm,ai,b9];cases p k <;> rfl
theorem Pc(h:bG E){Z:Sg}{b:Nat}{es:List (V × V)}{p:bF->Bool}(hb:Z[b]?=some (.map es))(hs:SB E es p)(k:bF):∃es',mapUpdate E Z 109 (.mp b) (.str k) (.bool true)=some (Z.set b (.map es'))/\SB E es' λq=>p q||decide (q=k):=by
 obtain⟨es',h1,h2⟩:=Ww h hs k;have hk:eH E 9 (.str k)=true:=by unfold eH;rw[h.dJ]
 refine⟨es',?_,h2⟩;unfold c9;simp only[h.uD,hk,hb,h1,fG,V.aZ,dm,j8,ai,b9,ck]
theorem Np(h:bG E){Z:Sg}{b m:Nat}{es:List (V × V)}{get:bF->Option V}(hb:Z[b]?=some (.map es))(hs:SM E es get):bA Z E.ty true (m+2) (.mp b)=some (.imp true es):=by
 rw[bA];simp only[hb];rw[gH λe he=>?_];obtain⟨⟨k,e1⟩,e2⟩:=hs.1 e he;obtain⟨a,v⟩:=e;dsimp only at e1 e2;subst e1;have e3:bA Z E.ty true (m+1) v=some v:=jQ e2;have e4:=bJ e2;have hpc:(ab k).cells.all n7=true:=rfl
 cases v <;> first
  |(simp only[hpc,e3,e4,bf];done)
  |cases e2
theorem E4(h:bG E){Z:Sg}{f k b t:Nat}{ex:Bool}{es:List (V × V)}{get:bF->Option V}(hk:Z[k]?=some (.cells t [.mp b] ex))(hb:Z[b]?=some (.map es))(hs:SM E es get):aR Z E.ty true (.fn f [] [.ref k 0])=some (.fn f [] [.cR true [.imp true es]]):=by
 refine xU hk ?_;simp only[aW,Np (m:=9) h hb hs,show cI true (V.imp true es)=true from rfl,bf]
theorem RR(h:bG E){es:List (V × V)}{p:bF->Bool}{y:bF}{g g2:Bool}(hs:SB E es p):aB E 156 [.str y,.cR g [.imp g2 es]] [] K=K (.bool (p y)) []:=by
 refine aB.of ?_;have hi:ge (.cR g [.imp g2 es])=true:=rfl;have ew:=bZ (Z:=[]) (ty:=E.ty) hi (bJ hi);rw[aH h.abF h.Y6 h.acD h.aaE (args':=[.str y,.cR g [.imp g2 es]]) (by simp only[aW,dM,ew]),aU (by kernel_rfl)];have hl:=λZ=>GZ (Z:=Z) (x:=.imp g2 es) h rfl hs y;simp only[aA,Tryz.f156,KP,ι,↓reduceIte,δ,ε,μ,reduceCtorEq,h.uD,hl];exact rfl
theorem RQ(h:bG E){es:List (V × V)}{p:bF->Bool}{y:bF}{g g2:Bool}(hs:SB E es p):aB E 157 [.str y,.cR g [.imp g2 es]] [] K=K (.bool (!p y)) []:=by
 refine aB.of ?_;have hi:ge (.cR g [.imp g2 es])=true:=rfl;have ew:=bZ (Z:=[]) (ty:=E.ty) hi (bJ hi);rw[aH h.abE h.Y5 h.acC h.aaD (args':=[.str y,.cR g [.imp g2 es]]) (by simp only[aW,dM,ew]),aU (by kernel_rfl)];have hl:=λZ=>GZ (Z:=Z) (x:=.imp g2 es) h rfl hs y;simp only[aA,Tryz.f157,KP,ι,↓reduceIte,δ,ε,μ,reduceCtorEq,h.uD,hl];exact rfl
structure oM (E:Env) (Y:Sg) (kr ko mr mo:Nat) (p1 p2:bF->Bool):Prop where
 b1:Y[kr]?=some (.cells 109 [.mp mr] true)
 b2:Y[ko]?=some (.cells 109 [.mp mo] true)
 m1:∃es,Y[mr]?=some (.map es)/\SB E es p1
 m2:∃es,Y[mo]?=some (.map es)/\SB E es p2
 ne:mr≠mo
theorem oM.app{Y:Sg}{kr ko mr mo:Nat}{p1 p2:bF->Bool}(h:oM E Y kr ko mr mo p1 p2)(y:O):oM E (Y++[y]) kr ko mr mo p1 p2:=by
 obtain⟨e1,h1,s1⟩:=h.m1;obtain⟨e2,h2,s2⟩:=h.m2;exact⟨aI h.b1,aI h.b2,⟨e1,aI h1,s1⟩,⟨e2,aI h2,s2⟩,h.ne⟩
theorem qU{Y:Sg}{i j:Nat}{x y:O}(h1:Y[i]?=some x)(h2:Y[j]?=some y)(h:x≠y):i≠j:=λe=>h (by rw[e,h2]at h1;exact(dh h1).symm)
theorem oM.WD{Y:Sg}{kr ko mr mo:Nat}{p1 p2 q1:bF->Bool}{es:List (V × V)}(h:oM E Y kr ko mr mo p1 p2)(hs:SB E es q1):oM E (Y.set mr (.map es)) kr ko mr mo q1 p2:=by
 obtain⟨e1,h1,s1⟩:=h.m1;obtain⟨e2,h2,s2⟩:=h.m2;have n1:=qU h1 h.b1 (by intro e;cases e);have n2:=qU h1 h.b2 (by intro e;cases e);exact⟨by rw[aa n1];exact h.b1,by rw[aa n2];exact h.b2,⟨es,by rw[br (AI.1 h1).1],hs⟩,⟨e2,by rw[aa h.ne];exact h2,s2⟩,h.ne⟩
theorem oM.put2{Y:Sg}{kr ko mr mo:Nat}{p1 p2 q2:bF->Bool}{es:List (V × V)}(h:oM E Y kr ko mr mo p1 p2)(hs:SB E es q2):oM E (Y.set mo (.map es)) kr ko mr mo p1 q2:=by
 obtain⟨e1,h1,s1⟩:=h.m1;obtain⟨e2,h2,s2⟩:=h.m2;have n1:=qU h2 h.b1 (by intro e;cases e);have n2:=qU h2 h.b2 (by intro e;cases e);exact⟨by rw[aa n1];exact h.b1,by rw[aa n2];exact h.b2,⟨e1,by rw[aa (kg h.ne)];exact h1,s1⟩,⟨es,by rw[br (AI.1 h2).1],hs⟩,h.ne⟩
def i_(rs:List aD)(k:bF):Bool:=rs.any λq=>decide (q.name=k)
def xF(rs:List aD)(k:bF):Bool:=rs.any λq=>decide (k∈q.outs)
theorem uW{rs:List aD}{n:bF}:decide (gL rs n=none) = !i_ rs n:=by
 unfold gL i_;rw[<- cO];cases bR (λr=>decide (r.name=n)) rs <;> rfl
theorem Ec{rs:List aD}{i:Nat}{r:aD}(hr:rs[i]?=some r):pF rs i=(i_ (rs.take i) r.name||r.outs.any (xF (rs.take i))):=by
 unfold pF i_ xF;rw[hr,ec];simp only[fh,fl,af];constructor
 ·rintro⟨q,hq,e | ⟨x,hx,e⟩⟩
  ·exact .inl ⟨q,hq,e⟩
  ·exact .inr ⟨x,hx,q,hq,e⟩
 ·rintro (⟨q,hq,e⟩ | ⟨x,hx,q,hq,e⟩)
  ·exact⟨q,hq,.inl e⟩
  ·exact⟨q,hq,.inr ⟨x,hx,e⟩⟩
theorem Iz{rs:List aD}{i:Nat}{r:aD}(hr:rs[i]?=some r)(k:bF):i_ (rs.take (i+1)) k=(i_ (rs.take i) k||decide (k=r.name)):=by
 unfold i_;rw[qN hr,pc.2 ⟨Eq.symm,Eq.symm⟩]
theorem Kx{rs:List aD}{i:Nat}{r:aD}(hr:rs[i]?=some r)(k:bF):xF (rs.take (i+1)) k=(xF (rs.take i) k||decide (k∈r.outs)):=qN hr
theorem ZZ(h:bG E){a:V}{rs:List aD}(ia:IS dU a rs)(hs:∀x∈rs,Small x)(hE:gZ rs=if iC rs=true then 2 else 0)(hl:rs.length<=4294967296){Y:Sg}{kr ko mr mo:Nat}{p2:bF->Bool}(bx:oM E Y kr ko mr mo (i_ rs) p2)(F:FT)(g0:F.get 0=a)(g7:F.get 7=.ref kr 0)(hk:∀nm σ',K (.fR [.int .i64 (gZ rs),.str nm]) σ') :
  R E (η [1,1,1,1,1] (aA dl).code) [] ⟨81,F⟩ Y (nV E (aA dl).results K):=by
 have la:=dH h ia;have d28:=h.Uw;simp only[aA,dl,η,ay]at d28;simp only[aA,dl,KP,↓reduceIte,ε,η,g0,la];refine aV (λi F Y=>F.get 7=.ref kr 0/\F.get 68=a/\F.get 69=.int .i64 (rs.length:Int)/\F.get 70=.int .i64 (i:Int)/\oM E Y kr ko mr mo (i_ rs) p2/\∀(j:Nat)(r:aD),j<i->rs[j]?=some r->r.after.any (λn=>!i_ rs n)=false) rs.length ?_ ?_ rs.length 0 _ _ (by omega) (fZ (by simp+decide only[GS,g7,aj]) ⟨bx,λj r hj=>by omega⟩)
 ·rintro i F Y hi ⟨g7,g68,g69,g70,bx,hp⟩ next
  obtain⟨r,hr⟩:∃y,rs[i]?=some y:=⟨_,AT hi⟩;obtain⟨g,p1,p2',p3,p4,e1,i1,i2,i3,i4⟩:=fQ h ia hr;have hsm:=hs r (ag hr);have a3:=hsm.after;have o1:=aQ i1.bE;have o2:=aQ i2.bE;have o3:=aQ i3.bE;have o4:=aQ i4.bE;have hlt:=dR hi;have hadd:=bW i (by omega);have bx1:=bx.app (ζ 46 [.str r.name,p1,p2',p3,p4] true);have s1:(Y++[ζ 46 [.str r.name,p1,p2',p3,p4] true])[Y.length]?=some (ζ 46 [.str r.name,p1,p2',p3,p4] true):=aL;rw[aF];simp only[KP,ι,Ξ,↓reduceIte,δ,ε,μ,reduceCtorEq,h.bB,h.bO,g7,g68,g69,g70,hlt,e1,o1,o2,o3,o4,aL,bP];generalize Y++[ζ 46 [.str r.name,p1,p2',p3,p4] true]=τ1 at *;generalize Y.length=y at *;obtain⟨es,hm,hsb⟩:=bx1.m1;have ef:=E4 (f:=157) h bx1.b1 hm hsb
  have kf:=dX (λK=>sH (Z:=τ1) (K:=K) (k:=157) (caps:=[.cR true [.imp true es]]) (P:=λn=>!i_ rs n) h (i3.ls τ1 9) (by omega) (λc hc=>by cases hc with | head=>rfl | tail _ hc=>cases hc) (λy v hy hv=>by
   subst hv;show aB E 157 [.str y,.cR true [.imp true es]] [] _;rw[RQ h hsb];exact⟨rfl,rfl⟩) ef)
  cases m:r.after.any λn=>!i_ rs n with
  |true=>
   have hstr:iC rs=true:=by
    unfold iC;refine fh.2 ⟨r,ag hr,?_⟩;rw[<- m];exact b8 (λf=>r.after.any f) (funext λn=>uW)
   rw[hE,az hstr]at hk;simp only[KP,ι,↓reduceIte,δ,ε,reduceCtorEq,h.dJ,h.bO,s1,kf,m,aX d28,bS];exact hk _ _
  |false=>
  simp only[KP,↓reduceIte,δ,ε,g70,kf,m,hadd];refine next _ _ (fZ (by simp+decide only[GS,g7,g68,g69,aj]) ⟨bx1,λj q hj hq=>?_⟩)
  rcases cr j i with g | g
  ·exact hp j q g hq
  ·obtain rfl:j=i:=by omega
   rw[hr]at hq;cases hq;exact m
 ·rintro F Y ⟨g7,g68,g69,g70,bx,hp⟩
  have hstr:iC rs=false:=by
   unfold iC;refine mj.2 λr hr=>?_;obtain⟨j,hj,e⟩:=fm hr;have:=hp j r hj (by rw[AT hj,e]);rw[show (r.after.any λn=>decide (gL rs n=none))=r.after.any λn=>!i_ rs n from b8 (λf=>r.after.any f) (funext λn=>uW),this];simp
  rw[hE,an (by rw[hstr];simp)]at hk;have hlt:=dW (bt rs.length);rw[aF];simp only[KP,↓reduceIte,δ,ε,lZ,g69,g70,hlt];exact hk _ _
theorem oM.congr{Y:Sg}{kr ko mr mo:Nat}{p1 p2 q1 q2:bF->Bool}(h:oM E Y kr ko mr mo p1 p2)(e1:∀k,p1 k=q1 k)(e2:∀k,p2 k=q2 k):oM E Y kr ko mr mo q1 q2:=by
 rwa [show p1=q1 from funext e1,show p2=q2 from funext e2]at h
theorem ZY(h:bG E){a:V}{rs:List aD}(ia:IS dU a rs)(hs:∀x∈rs,Small x)(hE:gZ rs=if tW rs=true then 2 else if iC rs=true then 2 else 0)(hl:rs.length<=4294967296){Y:Sg}{kr ko mr mo:Nat}(bx:oM E Y kr ko mr mo (λ_=>false) (λ_=>false))(F:FT)(g0:F.get 0=a)(g7:F.get 7=.ref kr 0)(g8:F.get 8=.ref ko 0)(hk:∀nm σ',K (.fR [.int .i64 (gZ rs),.str nm]) σ') :
  R E (η [1,1,1,1] (aA dl).code) [] ⟨81,F⟩ Y (nV E (aA dl).results K):=by
 have la:=dH h ia;have key:=λ(hE':gZ rs=if iC rs=true then 2 else 0) Y p2 bx F g0 g7=>ZZ (K:=K) (Y:=Y) (kr:=kr) (ko:=ko) (mr:=mr) (mo:=mo) (p2:=p2) h ia hs hE' hl bx F g0 g7 hk;rw[show η [1,1,1,1] (aA dl).code=.seq (η [1,1,1,1,0] (aA dl).code) (η [1,1,1,1,1] (aA dl).code) from rfl];have d16:=h.Ux;simp only[aA,dl,η,ay]at d16;generalize η [1,1,1,1,1] (aA dl).code=C at key ⊢;simp only[aA,dl,KP,↓reduceIte,ε,η,g0,la];refine aV (λi F Y=>F.get 0=a/\F.get 7=.ref kr 0/\F.get 8=.ref ko 0/\F.get 35=a/\F.get 36=.int .i64 (rs.length:Int)/\F.get 37=.int .i64 (i:Int)/\oM E Y kr ko mr mo (i_ (rs.take i)) (xF (rs.take i))/\∀j,j<i->pF rs j=false) rs.length ?_ ?_ rs.length 0 _ _ (by omega) (sF (by simp+decide only[GS,g0,g7,g8,aj]) ⟨bx,λj hj=>by omega⟩)
 ·rintro i F Y hi ⟨g0,g7,g8,g35,g36,g37,bx,hp⟩ next
  obtain⟨r,hr⟩:∃y,rs[i]?=some y:=⟨_,AT hi⟩;obtain⟨g,p1,p2',p3,p4,e1,i1,i2,i3,i4⟩:=fQ h ia hr;have hsm:=hs r (ag hr);have a2:=hsm.outs;have o1:=aQ i1.bE;have o2:=aQ i2.bE;have o3:=aQ i3.bE;have o4:=aQ i4.bE;have hlt:=dR hi;have hadd:=bW i (by omega);have lo:=bT h i2;have bx1:=bx.app (ζ 46 [.str r.name,p1,p2',p3,p4] true);have s1:(Y++[ζ 46 [.str r.name,p1,p2',p3,p4] true])[Y.length]?=some (ζ 46 [.str r.name,p1,p2',p3,p4] true):=aL;rw[aF];simp only[KP,ι,Ξ,↓reduceIte,δ,ε,μ,h.bO,h.uD,g7,g8,g35,g36,g37,hlt,e1,o1,o2,o3,o4,aL,bP];generalize Y++[ζ 46 [.str r.name,p1,p2',p3,p4] true]=τ1 at *;generalize Y.length=y at *;obtain⟨es1,hm1,hsb1⟩:=bx1.m1;obtain⟨es2,hm2,hsb2⟩:=bx1.m2;have bb1:=bx1.b1;have ef:=E4 (f:=156) h bx1.b2 hm2 hsb2
  have kf:=dX (λK=>sH (Z:=τ1) (K:=K) (k:=156) (caps:=[.cR true [.imp true es2]]) (P:=xF (rs.take i)) h (i2.ls τ1 9) (by omega) (λc hc=>by cases hc with | head=>rfl | tail _ hc=>cases hc) (λy v hy hv=>by
   subst hv;show aB E 156 [.str y,.cR true [.imp true es2]] [] _;rw[RR h hsb2];exact⟨rfl,rfl⟩) ef)
  have hlk:=GZ (Z:=τ1) (x:=.mp mr) h (by unfold bm;simp only[hm1]) hsb1 r.name;have hcl:=Ec hr
  have yes:pF rs i=true->gZ rs=2:=λe=>by
   rw[hE,az];exact fh.2 ⟨i,k8.2 hi,e⟩
  cases m1:i_ (rs.take i) r.name with
  |true=>
   rw[m1,Bool.true_or]at hcl;rw[yes hcl]at hk;simp only[KP,ι,↓reduceIte,δ,ε,reduceCtorEq,h.dJ,h.bO,s1,bb1,hlk,m1,aX d16,bS];exact hk _ _
  |false=>
  rw[m1,Bool.false_or]at hcl;cases m2:r.outs.any (xF (rs.take i)) with
  |true=>
   rw[m2]at hcl;rw[yes hcl]at hk;simp only[KP,ι,↓reduceIte,δ,ε,reduceCtorEq,h.dJ,h.bB,h.bO,s1,bb1,hlk,kf,m1,m2,aX d16,bS];exact hk _ _
  |false=>
  rw[m2]at hcl;obtain⟨es1',hu,hsb1'⟩:=Pc h hm1 hsb1 r.name;have bx2:=bx1.WD hsb1';have ny:mr≠y:=qU hm1 s1 (by intro e;cases e);have s2:(τ1.set mr (.map es1'))[y]?=some (ζ 46 [.str r.name,p1,p2',p3,p4] true):=by rw[aa ny];exact s1
  simp only[KP,ι,↓reduceIte,δ,ε,reduceCtorEq,h.dJ,h.bB,h.bO,h.uD,g7,s1,bb1,hlk,kf,m1,m2,hu,s2,lo];refine aV (λj F Y=>F.get 0=a/\F.get 7=.ref kr 0/\F.get 8=.ref ko 0/\F.get 35=a/\F.get 36=.int .i64 (rs.length:Int)/\F.get 37=.int .i64 (i:Int)/\F.get 58=p2'/\F.get 59=.int .i64 (r.outs.length:Int)/\F.get 60=.int .i64 (j:Int)/\oM E Y kr ko mr mo (λk=>i_ (rs.take i) k||decide (k=r.name)) (λk=>xF (rs.take i) k||decide (k∈r.outs.take j))) r.outs.length ?_ ?_ r.outs.length 0 _ _ (by omega) (BV (by simp+decide only[GS,g0,g7,g8,g35,g36,g37,aj]) (bx2.congr (λ_=>rfl) (λk=>by simp)))
  ·rintro j F Y hj ⟨g0,g7,g8,g35,g36,g37,g58,g59,g60,bx⟩ next2;obtain⟨s,hsj⟩:∃y,r.outs[j]?=some y:=⟨_,AT hj⟩;obtain⟨g',e2⟩:=g_ h i2 hsj;have hlt2:=dR hj;have hadd2:=bW j (by omega);obtain⟨es3,hm3,hsb3⟩:=bx.m2;obtain⟨es3',hu3,hsb3'⟩:=Pc h hm3 hsb3 s;have bb2:=bx.b2;rw[aF];simp only[KP,ι,↓reduceIte,δ,ε,h.dJ,h.uD,g8,g58,g59,g60,hlt2,e2,bb2,hu3,hadd2];refine next2 _ _ (BV (by simp+decide only[GS,g0,g7,g8,g35,g36,g37,g58,g59,aj]) ((bx.put2 hsb3').congr (λ_=>rfl) (λk=>?_)));rw[dz,hsj,Bool.or_assoc,ec];simp
  ·rintro F Y ⟨g0,g7,g8,g35,g36,g37,g58,g59,g60,bx⟩;rw[ah (OF _)]at bx;have hlt2:=dW (bt r.outs.length);rw[aF];simp only[KP,↓reduceIte,δ,ε,g37,g59,g60,hlt2,hadd];refine next _ _ (sF (by simp+decide only[GS,g0,g7,g8,g35,g36,aj]) ⟨bx.congr (λk=>(Iz hr k).symm) (λk=>(Kx hr k).symm),λj hj=>?_⟩)
   rcases cr j i with g | g
   ·exact hp j g
   ·obtain rfl:j=i:=by omega
    exact hcl
 ·rintro F Y ⟨g0,g7,g8,g35,g36,g37,bx,hp⟩;have hcl:tW rs=false:=mj.2 λj hj=>by rw[hp j (k8.1 hj)];simp
  rw[an (by rw[hcl];simp)]at hE;rw[ah (OF _)]at bx;have hlt:=dW (bt rs.length);rw[aF];simp only[KP,↓reduceIte,ε,g36,g37,hlt];exact key hE _ _ bx _ (by simp+decide only[GS,g0]) (by simp+decide only[GS,g7])
theorem wQ{Y:Sg}{a b c d:O}{n:Nat}:(Y++[a]++[b]++[c]++[d])[Y.length+n]?=[a,b,c,d][n]?:=by
 rw[cw,cw,cw,bg (by omega),mm];rfl
theorem Ru{Y:Sg}{a b c d x:O}:(Y++[a]++[b]++[c]++[d]).set (Y.length+2) x=Y++[a]++[b]++[x]++[d]:=by
 rw[cw,cw,cw,o7 _ _ (by omega),mm,cw,cw,cw];rfl
theorem Oa{Y:Sg}{a b c d x:O}:(Y++[a]++[b]++[c]++[d]).set (Y.length+3) x=Y++[a]++[b]++[c]++[x]:=by
 rw[cw,cw,cw,o7 _ _ (by omega),mm,cw,cw,cw];rfl
theorem KO{Y:Sg}{a b c:O}:(Y++[a]).length=Y.length+1/\(Y++[a]++[b]).length=Y.length+2/\(Y++[a]++[b]++[c]).length=Y.length+3:=by simp
theorem MW(h:bG E){a:V}{rs:List aD}(ha:LS dU 46 Z a rs)(hs:∀x∈rs,Small x)(hl:rs.length<=4294967296):aB E 119 [a] Z λv σ'=>σ'=Z/\∃nm,v=.fR [.int .i64 (gZ rs),.str nm]:=by
 obtain⟨a',ea,ia⟩:=fI h ha;rw[aH h.abR h.Zh h.acP h.aaQ (args':=[a']) (by simp only[aW,ea]),aU (by kernel_rfl)];have la:=dH h ia
 have key:=λhE Y kr ko mr mo bx F g0 g7 g8=>ZY (K:=λv σ1=>match cQ σ1 E.ty false v with
   |some v=>∃nm,v=.fR [.int .i64 (gZ rs),.str nm]
   |none=>False) (Y:=Y) (kr:=kr) (ko:=ko) (mr:=mr) (mo:=mo) h ia hs hE hl bx F g0 g7 g8 (λnm σ'=>⟨nm,rfl⟩)
 rw[show (aA dl).code=.seq (η [0] (aA dl).code) (.seq (η [1,0] (aA dl).code) (.seq (η [1,1,0] (aA dl).code) (.seq (η [1,1,1,0] (aA dl).code) (η [1,1,1,1] (aA dl).code)))) from rfl];have d6:=h.XK;simp only[aA,dl,η,ay]at d6;generalize η [1,1,1,1] (aA dl).code=C at key ⊢;simp only[aA,dl,KP,↓reduceIte,ε,reduceCtorEq,lZ,η,la];refine aV (λi F Y=>F.get 0=a'/\F.get 16=a'/\F.get 17=.int .i64 (rs.length:Int)/\F.get 18=.int .i64 (i:Int)/\∀(j:Nat)(r:aD),j<i->rs[j]?=some r->bD r=0) rs.length ?_ ?_ rs.length 0 _ _ (by omega) (fZ (by simp+decide only[GS,aj]) (λj r hj=>by omega))
 ·rintro i F Y hi ⟨g0,g16,g17,g18,hp⟩ next
  obtain⟨r,hr⟩:∃y,rs[i]?=some y:=⟨_,AT hi⟩;obtain⟨g,p1,p2,p3,p4,e1,i1,i2,i3,i4⟩:=fQ h ia hr;have hsm:=hs r (ag hr);have o1:=aQ i1.bE;have o2:=aQ i2.bE;have o3:=aQ i3.bE;have o4:=aQ i4.bE;have hlt:=dR hi;have hadd:=bW i (by omega);have s1:(Y++[ζ 46 [.str r.name,p1,p2,p3,p4] true])[Y.length]?=some (ζ 46 [.str r.name,p1,p2,p3,p4] true):=aL;have kr:=λ(Y:Sg)=>TZ (Z:=Y) h (v:=.agg [.str r.name,p1,p2,p3,p4]) ⟨p1,p2,p3,p4,rfl,i1,i2,i3,i4⟩ hsm;rw[aF];simp only[KP,ι,Ξ,↓reduceIte,δ,ε,μ,h.bO,g16,g17,g18,hlt,e1,o1,o2,o3,o4,aL,bP];generalize Y++[ζ 46 [.str r.name,p1,p2,p3,p4] true]=τ1 at *;generalize Y.length=y at *;by_cases he:bD r=0
  ·have q:=BY he;simp only[KP,↓reduceIte,δ,ε,g18,kr,q,hadd];refine next _ _ (fZ (by simp+decide only[GS,g0,g16,g17,aj]) (λj x hj hx=>?_))
   rcases cr j i with g | g
   ·exact hp j x g hx
   ·obtain rfl:j=i:=by omega
    rw[hr]at hx;cases hx;exact he
  ·have q:=AS he;rw[Bd hr he λj s hj hx=>hp j s hj hx];simp only[KP,ι,↓reduceIte,δ,ε,reduceCtorEq,h.dJ,h.bO,s1,kr,q,aX d6,bS];exact⟨r.name,rfl⟩
 ·rintro F Y ⟨g0,g16,g17,g18,hp⟩;have hE:=Ag λj s hx=>hp j s (AI.1 hx).1 hx;have hlt:=dW (bt rs.length);rw[aF];by_cases h40:40<rs.length
  ·have q:decide ((40:Int)<(rs.length:Int))=true:=BY (by omega);rw[az h40]at hE;rw[hE];simp only[KP,↓reduceIte,δ,ε,reduceCtorEq,lZ,g0,g17,g18,hlt,la,q];exact⟨[],rfl⟩
  ·have q:decide ((40:Int)<(rs.length:Int))=false:=AS (by omega);rw[an h40]at hE;have n1:=(KO (Y:=Y) (a:=.map []) (b:=.map []) (c:=.cells 109 [.cA] true)).1;have n2:=(KO (Y:=Y) (a:=.map []) (b:=.map []) (c:=.cells 109 [.cA] true)).2.1;have n3:=(KO (Y:=Y) (a:=.map []) (b:=.map []) (c:=.cells 109 [.cA] true)).2.2;have q1:(Y++[qe []]++[qe []]++[ζ 109 [.cA] true]++[ζ 109 [.cA] true])[Y.length+2]?=some (ζ 109 [.cA] true):=wQ;have q2:(Y++[qe []]++[qe []]++[ζ 109 [.mp Y.length] true]++[ζ 109 [.cA] true])[Y.length+3]?=some (ζ 109 [.cA] true):=wQ;simp only[KP,Ξ,↓reduceIte,δ,ε,reduceCtorEq,h.uD,g0,g17,g18,hlt,la,q,n1,n2,n3,q1,q2,Ru,Oa];refine key hE _ (Y.length+2) (Y.length+3) Y.length (Y.length+1) ⟨wQ,wQ,⟨[],wQ (n:=0),P4⟩,⟨[],wQ,P4⟩,by omega⟩ _ ?_ ?_ ?_
   ·simp+decide only[GS,g0]
   ·simp+decide only[GS]
   ·simp+decide only[GS]
theorem FH{lt:List V->List V->Bool}(x:List V):∀l,(DH lt x l).Perm (x::l)
 | []=>.refl _
 |y::r=>by
  rw[DH];split
  ·exact .refl _
  ·exact((FH x r).cons y).trans (.swap x y r)
theorem DP{lt:List V->List V->Bool}:∀(l acc:List (List V)),(l.foldl (λacc x=>DH lt x acc) acc).Perm (l++acc)
 | [],acc=>.refl _
 |x::l,acc=>by
  rw[jh];refine(DP l _).trans ?_;exact((FH x acc).append_left l).trans jt
theorem J6{lt:List V->List V->Bool}(l:List (List V)):(lA lt l).Perm l:=by
 have:=DP (lt:=lt) l []
 rwa [gy]at this
def HK:List V->bF
 | [.str s]=>s
 |_=>[]
theorem Co:∀{rs:List (List V)}{l:List bF},eL aP.P rs l->rs=l.map λs=>[ab s]
 |_,_,.nil=>rfl
 |_,_,.cons h t=>by rw[bj,Co t,show _=[ab _] from h]
theorem AM:∀l:List bF,eL aP.P (l.map λs=>[ab s]) l
 | []=>.nil
 |_::l=>.cons rfl (AM l)
theorem Ba:∀l:List bF,((l.map λs=>[ab s]).flatten).map (λv=>[v])=l.map λs=>[ab s]
 | []=>rfl
 |s::l=>by simp only[bj,dn,gj,Ba l];rfl
theorem B1:∀{l:List bF},(∀s∈l,s.length<=9223372036854775807)->allRows lC (l.map λs=>[ab s])=true
 | [],_=>rfl
 |s::l,h=>by
  have h1:lC [ab s]=true:=jz (h s (No ..));rw[bj,allRows,h1];exact B1 λx hx=>h x (ae _ hx)
theorem EY:∀{rows:List (List V)},(∀r∈rows,∃s,r=[ab s])->rows=(rows.map HK).map λs=>[ab s]
 | [],_=>rfl
 |r::rows,h=>by
  obtain⟨s,e⟩:=h r (No ..);rw[bj,bj,<- EY λx hx=>h x (ae _ hx),e];rfl
theorem FM{Z:Sg}{w:V}{l:List bF}(ow:aY aP 9 Z w l)(hl:l.length<=1000000)(hs:∀s∈l,s.length<=9223372036854775807):∃σ' l',qF 9 [w] Z=some (.fR [],σ')/\l'.Perm l/\aY aP 9 σ' w l'/\Sp Z σ' w/\σ'.length=Z.length:=by
 rcases ow with⟨rfl,rfl⟩ | ⟨b,rs,ex,rfl,hb,ha⟩
 ·exact⟨Z,[],rfl,.refl _,.inl ⟨rfl,rfl⟩,Sp.refl _ _,rfl⟩
 ·obtain rfl:=Co ha;have hp:(lA strLt (l.map λs=>[ab s])).Perm (l.map λs=>[ab s]):=J6 _
  have he:((lA strLt (l.map λs=>[ab s])).map HK).Perm l:=by
   have:=hp.map HK
   rwa [js,show HK ∘ (λs=>[ab s])=id from rfl,List.map_id]at this
  have hr:lA strLt (l.map λs=>[ab s])=((lA strLt (l.map λs=>[ab s])).map HK).map λs=>[ab s]:=by
   refine EY λr hr=>?_;obtain⟨s,-,e⟩:=cv.1 (hp.mem_iff.1 hr);exact⟨s,e.symm⟩
  have hlen:((l.map λs=>[ab s]).flatten).length=l.length:=by
   have:=b8 List.length (Ba l)
   rwa [bw,bw]at this
  refine⟨Z.set b (.cells 9 (lA strLt (l.map λs=>[ab s])).flatten ex),_,?_,he,.inr ⟨b,_,ex,?_,?_,AM _⟩,?_,?_⟩
  ·unfold qF;simp only[hb,Ba,B1 hs,show ca 9 9=true from rfl,hlen,jz hl,show ca l.length l.length=true from Nat.beq_refl _]
  ·rw[bw,hp.length_eq,bw]
  ·rw[br (AI.1 hb).1,<- hr]
  ·intro c o hc hn;rw[aa (λe=>hn (by rw[<- e];rfl))];exact hc
  ·rw[dy]
def OL(Y:Sg)(v:V)(l:List bF):Prop:=(v=.aG/\l=[])\/∃b cs ex,v=.sl b 0 l.length none/\Y[b]?=some (.cells 9 cs ex)/\cs.take l.length=l.map ab
theorem DS:∀l:List bF,(l.map λs=>[ab s]).flatten=l.map ab
 | []=>rfl
 |s::l=>by simp only[bj,dn,DS l];rfl
theorem IZ(h:bG E){b off n k:Nat}(hk:k<n):indexAddr E 24 (.sl b off n none) (.int .i64 (k:Int))=some (.ref b (off+k)):=by
 unfold Θ;simp only[h.bB,h.dJ,show ¬ ((k:Int)<0) by omega,b9,dx,hk,bf,pg]
theorem Mt(h:bG E){Y:Sg}{b j:Nat}{A:List bF}{ex:Bool}{s:bF}(hb:Y[b]?=some (ζ 9 (A.map ab) ex))(hj:A[j]?=some s):loadAt E Y 9 (.ref b j)=some (.str s):=by
 unfold ι;have e:(A.map ab)[j]?=some (.str s):=by rw[jm,hj];rfl
 simp only[h.dJ,hb,e,qo];rfl
theorem zC:∀(A:List bF)(j:Nat)(s:bF),j<A.length->ac (A.map ab) j [.str s]=(A.set j s).map ab
 | [],_,_,h=>absurd h (by simp)
 |a::A,0,s,_=>rfl
 |a::A,j+1,s,h=>by
  have:=zC A j s (by simpa using h);simp only[bj,nt,<- this];rfl
theorem Yy(h:bG E){Y:Sg}{b j:Nat}{A:List bF}{ex:Bool}{s:bF}(hb:Y[b]?=some (ζ 9 (A.map ab) ex))(hj:j<A.length):storeAt E Y 9 (.ref b j) (.str s)=some (Y.set b (ζ 9 ((A.set j s).map ab) ex)):=by
 unfold Ξ;have e:decide (j+1<=(A.map ab).length)=true:=BY (by rw[bw];omega);simp only[h.dJ,hb,V.cells,IT,aq,iy,ki,V.aZ,e,zC A j s hj];rfl
theorem QL(h:bG E){Y:Sg}{b off n:Nat}:lenOf E Y 24 (.sl b off n none)=some n:=by unfold lenOf;rw[h.bB]
theorem MH(h:bG E){Y:Sg}{b n k:Nat}{A:List bF}{ex:Bool}(hb:Y[b]?=some (ζ 9 (A.map ab) ex))(hn:n=A.length)(hk:k<n):Ax.slice E Y 24 (.sl b 0 n none) (some (.int .i64 (k:Int))) none none=some (.sl b k (n-k) none):=by
 unfold Ax.slice;simp only[h.bB,h.dJ,hb,bound,show decide (0<=(k:Int))=true from BY (by omega),show decide ((k:Int)<=(n:Int))=true from BY (by omega),qa,bf,dx,dc];show (if (1:Nat)=0 then none else if (!(9==9))=true then none else if k*1<(A.map ab).length then some (V.sl b (k*1) (n-k) none) else _)=_;rw[an (by decide),an (by decide),az (by rw[bw];omega),pg]
theorem SE(h:bG E){Y:Sg}{b n k:Nat}{cs:List V}{ex:Bool}(hb:Y[b]?=some (.cells 9 cs ex))(hn:n=cs.length)(hk:k<n):Ax.slice E Y 24 (.sl b 0 n none) none (some (.int .i64 (k:Int))) none=some (.sl b 0 k none):=by
 unfold Ax.slice;simp only[h.bB,h.dJ,hb,bound,yW,show decide (0<=(k:Int))=true from BY (by omega),dx,gz,l6,qg,jd]
 show (if (1:Nat)=0 then none else if (!(9==9))=true then none else match if decide ((k:Int)<=((cs.length / 1:Nat):Int))=true then some k else none with
  |none=>none
  |some h=>if 0<cs.length then some (V.sl b 0 h none) else _)=_
 rw[an (by decide),an (by decide),az (by rw[Nat.div_one];exact BY (by omega))];show (if 0<cs.length then some (V.sl b 0 k none) else _)=_;rw[az (by omega)]
theorem RG(h:bG E){Y:Sg}{b n k:Nat}{A:List bF}{ex:Bool}(hb:Y[b]?=some (ζ 9 (A.map ab) ex))(hn:n=A.length)(hk:k<n):∃cs,mi E Y .clear #[24] [.sl b k (n-k) none]=some (.fR [],Y.set b (.cells 9 cs ex))/\cs.take k=(A.take k).map ab/\cs.length=n:=by
 have hne:¬ n-k=0:=by omega
 have hle:decide (k+(n-k)*1<=(A.map ab).length)=true:=BY (by rw[bw];omega);refine⟨ac (A.map ab) k (gG (n-k) [.str []]),?_,?_,?_⟩
 ·unfold mi
  show (match E.ty 24 with
   |some { kd:=.sl e,.. }=>match E.ty e,Y[b]? with
    |some i,some (.cells u cs ex)=>
     if n-k=0 then some (V.fR [],Y)
     else if u==e&&decide (k+(n-k)*i.size<=cs.length) then some (V.fR [],Y.set b (.cells u (ac cs k (gG (n-k) i.zero.cells)) ex)) else none
    |_,_=>none
   |_=>none)=_
  simp only[h.bB,h.dJ,hb,hne,b9];rw[hle];rfl
 ·rw[List.map_take];clear hle hne;unfold ac;rw[cw,je (by rw[bl,bw];omega),nr,Nat.min_self]
 ·have hr:∀m,(gG m [ab []]).length=m:=λm=>by
   induction m with
   |zero=>rfl
   |succ m ih=>rw[gG,By,ih];simp;omega
  unfold ac;simp only[By,bl,nj,bw,hr];omega
theorem Sp.set{Z Y:Sg}{w:V}{b:Nat}{y:O}(h:Sp Z Y w)(hb:aO w=some b):Sp Z (Y.set b y) w:=λc o hc hn=>by
 rw[aa (λe=>hn (by rw[hb,e]))];exact h c o hc hn
theorem gF{l:List bF}{k:Nat}{u:bF}(hu:l[k]?=some u)(x:bF):x∈l.take (k+1) ↔ x∈l.take k\/x=u:=by
 rw[dz,hu];simp
theorem OK(h:bG E){w:V}{l:List bF}(ow:aY aP 9 Z w l)(hl:l.length<=1000000):aB E 122 [w] Z λv σ'=>(∃l',OL σ' v l'/\l'.length<=l.length/\∀x,x∈l' ↔ x∈l)/\(∀c,aO v=some c->aO w=some c)/\Sp Z σ' w/\σ'.length=Z.length:=by
 rw[cJ h.abO h.Ze h.acM h.aaN,aU (by kernel_rfl)];rcases ow with⟨rfl,rfl⟩ | ⟨b,rs,ex,rfl,hb,ha⟩
 ·have ln:lenOf E Z 24 .aG=some 0:=by unfold lenOf;rw[h.bB]
  simp only[aA,Tryz.f122,KP,↓reduceIte,ε,reduceCtorEq,Int.reduceLT,ln];exact⟨⟨[],.inl ⟨rfl,rfl⟩,OF _,λx=>qh⟩,λc hc=>hc,Sp.refl _ _⟩
 obtain rfl:=Co ha;rw[DS]at hb;have hls:OL Z (.sl b 0 l.length none) l:=.inr ⟨b,_,ex,rfl,hb,ah (by rw[bw];exact OF _)⟩;have lw:∀Y,lenOf E Y 24 (.sl b 0 l.length none)=some l.length:=λY=>QL h;by_cases h2:l.length<2
 ·have q:decide ((l.length:Int)<2)=true:=BY (by omega);simp only[aA,Tryz.f122,KP,↓reduceIte,ε,reduceCtorEq,lw,q];exact⟨⟨l,hls,OF _,λx=>qh⟩,λc hc=>hc,Sp.refl _ _⟩
 have q:decide ((l.length:Int)<2)=false:=AS (by omega);have d6:=h.XJ;simp only[aA,Tryz.f122,η,ay]at d6;have d11:=h.Uv;simp only[aA,Tryz.f122,η,ay]at d11;simp only[aA,Tryz.f122,KP,↓reduceIte,ε,reduceCtorEq,lw,q];refine aV (λi F Y=>Y=Z/\F.get 0=.sl b 0 l.length none/\F.get 3=.int .i64 ((i+1:Nat):Int)) (l.length-1) ?_ ?_ (l.length-1) 0 _ _ (by omega) ⟨rfl,(by simp+decide only[GS]),(by simp+decide only[GS];rfl)⟩
 ·rintro i F Y hi ⟨rfl,g0,g3⟩ next
  obtain⟨x,hx⟩:∃x,l[i+1]?=some x:=⟨_,AT (by omega)⟩;obtain⟨y,hy⟩:∃y,l[i]?=some y:=⟨_,AT (by omega)⟩;have hlt:=dR (show i+1<l.length by omega);have hdn:=ES (i+1) (by omega) (by omega);rw[o6]at hdn;have hadd:=bW (i+1) (by omega);have e1:=IZ (b:=b) (off:=0) h (show i+1<l.length by omega);have e2:=IZ (b:=b) (off:=0) h (show i<l.length by omega);rw[dc]at e1 e2;have e3:=Mt h hb hx;have e4:=Mt h hb hy;rw[aF];by_cases hxy:x=y
  case neg=>
   have hs:=gW hxy;simp only[KP,↓reduceIte,δ,ε,reduceCtorEq,g0,g3,lw,hlt,hdn,hadd,e1,e2,e3,e4,hs,aX d6,bS];exact next _ _ ⟨rfl,(by simp+decide only[GS,g0,aj])⟩
  have hs:=iX hxy;have e5:=MH h hb rfl (show i+1<l.length by omega);simp only[KP,↓reduceIte,δ,ε,reduceCtorEq,g0,g3,lw,hlt,hdn,e1,e2,e3,e4,e5,hs,aX d6,bS];have hly:y∈l.take (i+1):=ag (by rw[fu (nq i)];exact hy);have bo:aO (.sl b 0 l.length none)=some b:=rfl;have lw2:∀Y,lenOf E Y 24 (.sl b (i+1) (l.length-(i+1)) none)=some (l.length-(i+1)):=λY=>QL h
  refine aV (λj F τ'=>F.get 0=.sl b 0 l.length none/\F.get 4=.sl b (i+1) (l.length-(i+1)) none/\F.get 5=.int .i64 ((j+1:Nat):Int)/\Sp Y τ' (.sl b 0 l.length none)/\τ'.length=Y.length/\∃(A:List bF) (K:Nat),τ'[b]?=some (ζ 9 (A.map ab) ex)/\A.length=l.length/\F.get 3=.int .i64 (K:Int)/\i+1<=K/\K<=i+1+j/\(∀p,i+1+j<=p->A[p]?=l[p]?)/\∀x,x∈A.take K ↔ x∈l.take (i+1+j+1)) (l.length-(i+1)-1) ?_ ?_ (l.length-(i+1)-1) 0 _ _ (by omega) (mJ (by simp+decide only[GS,g0,aj]) ⟨(by simp+decide only[GS];rfl),Sp.refl _ _,rfl,l,i+1,hb,rfl,(by simp+decide only[GS,g3]),OF _,OF _,λp _=>rfl,λz=>by
   rw[gF (k:=i+1+0) (u:=x) hx];constructor
   ·exact .inl
   ·rintro (g | rfl)
    ·exact g
    ·rw[hxy];exact hly⟩)
  ·rintro j F τ' hj ⟨g0,g4,g5,sp,hlen,A,K,hA,hAl,g3,hK1,hK2,hag,hmem⟩ next2;obtain⟨u,hu⟩:∃u,l[i+1+j+1]?=some u:=⟨_,AT (by omega)⟩;obtain⟨v,hv⟩:∃v,l[i+1+j]?=some v:=⟨_,AT (by omega)⟩;have hu':A[i+1+(j+1)]?=some u:=(hag _ (by omega)).trans hu;have hv':A[i+1+j]?=some v:=(hag _ (by omega)).trans hv;have hlt2:=dR (show j+1<l.length-(i+1) by omega);have hdn2:=ES (j+1) (by omega) (by omega);rw[o6]at hdn2;have hadd2:=bW (j+1) (by omega);have hadd3:=bW K (by omega);have f1:=IZ (b:=b) (off:=i+1) h (show j+1<l.length-(i+1) by omega);have f2:=IZ (b:=b) (off:=i+1) h (show j<l.length-(i+1) by omega);have f3:=Mt h hA hu';have f4:=Mt h hA hv';have f5:=IZ (b:=b) (off:=0) h (show K<l.length by omega);rw[dc]at f5;have f6:=Yy (s:=u) h hA (show K<A.length by omega);have hms:∀z,z∈l.take (i+1+(j+1)+1) ↔ z∈l.take (i+1+j+1)\/z=u:=gF hu;rw[aF];by_cases huv:u=v
   ·have hs2:=iX huv;simp only[KP,↓reduceIte,δ,ε,g4,g5,lw2,hlt2,hdn2,hadd2,f1,f2,f3,f4,hs2,aX d11,bS];refine next2 _ _ (fK (by simp+decide only[GS,g0,g4,aj]) ⟨sp,hlen,A,K,hA,hAl,(by simp+decide only[GS,g3]),hK1,by omega,λp hp=>hag p (by omega),λz=>?_⟩);rw[hms,hmem];constructor
    ·exact .inl
    ·rintro (g | rfl)
     ·exact g
     ·rw[huv];exact ag (by rw[fu (nq (i+1+j))];exact hv)
   ·have hs2:=gW huv;simp only[KP,↓reduceIte,δ,ε,reduceCtorEq,g0,g3,g4,g5,lw2,hlt2,hdn2,hadd2,hadd3,f1,f2,f3,f4,f5,f6,hs2,aX d11,bS];refine next2 _ _ (fK (by simp+decide only[GS,g0,g4,aj]) ⟨Sp.set sp bo,by rw[dy];exact hlen,A.set K u,K+1,by rw[br (AI.1 hA).1],by rw[dy];exact hAl,(by simp+decide only[GS]),by omega,by omega,λp hp=>?_,λz=>?_⟩)
    ·rw[aa (by omega)];exact hag p (by omega)
    ·rw[hms,<- hmem,gF (u:=u) (by rw[br (by omega)]),List.take_set_of_le (OF K)]
  ·rintro F τ' ⟨g0,g4,g5,sp,hlen,A,K,hA,hAl,g3,hK1,hK2,hag,hmem⟩;have hlt2:=dW (show ¬ l.length-(i+1)-1+1<l.length-(i+1) by omega);have f1:=MH h hA hAl.symm (show K<l.length by omega);obtain⟨cs,f2,f3,f4⟩:=RG h hA hAl.symm (show K<l.length by omega);have hA2:(τ'.set b (.cells 9 cs ex))[b]?=some (.cells 9 cs ex):=by rw[br (AI.1 hA).1]
   have f5:=SE h hA2 f4.symm (show K<l.length by omega);have hKl:(A.take K).length=K:=by rw[bl];omega
   rw[aF];simp only[KP,↓reduceIte,δ,ε,reduceCtorEq,g0,g3,g4,g5,lw2,hlt2,f1,f2,f5];refine⟨⟨A.take K,.inr ⟨b,cs,ex,by rw[hKl],hA2,by rw[hKl];exact f3⟩,by rw[hKl];omega,λz=>?_⟩,λc hc=>hc,Sp.set sp bo,by rw[dy];exact hlen⟩
   ·rw[hmem,show i+1+(l.length-(i+1)-1)+1=l.length by omega,ah (OF _)]
 ·rintro F Y ⟨rfl,g0,g3⟩;have hlt:=dW (show ¬ l.length-1+1<l.length by omega);rw[aF];simp only[KP,↓reduceIte,δ,ε,reduceCtorEq,g0,g3,lw,hlt];exact⟨⟨l,hls,OF _,λx=>qh⟩,λc hc=>hc,Sp.refl _ _⟩
def MK(get:bF->Option V)(P:bF->bF->Prop):Prop:=∀k,(get k=none/\∀n,¬ P k n)\/∃n,P k n/\get k=some (.str n)
theorem MK.nil:MK (λ_=>none) λ_ _=>False:=λ_=>.inl ⟨rfl,λ_ h=>h⟩
theorem MK.put{get:bF->Option V}{P:bF->bF->Prop}(h:MK get P)(k n:bF):MK (λq=>if q=k then some (.str n) else get q) λq m=>P q m\/(q=k/\m=n):=λq=>by
 by_cases hq:q=k
 ·exact .inr ⟨n,.inr ⟨hq,rfl⟩,az hq⟩
 ·rcases h q with⟨h1,h2⟩ | ⟨m,h1,h2⟩
  ·exact .inl ⟨(an hq).trans h1,λm hm=>hm.elim (h2 m) λg=>hq g.1⟩
  ·exact .inr ⟨m,.inl h1,(an hq).trans h2⟩
theorem MK.congr{get:bF->Option V}{P Q:bF->bF->Prop}(h:MK get P)(e:∀k n,P k n ↔ Q k n):MK get Q:=λk=>by
 rcases h k with⟨h1,h2⟩ | ⟨n,h1,h2⟩
 ·exact .inl ⟨h1,λn hn=>h2 n ((e k n).2 hn)⟩
 ·exact .inr ⟨n,(e k n).1 h1,h2⟩
theorem Tt(h:bG E){Z:Sg}{x:V}{es:List (V × V)}{get:bF->Option V}(hx:bm Z x=some es)(hs:SM E es get)(k:bF):lookup E Z 97 x (.str k) true=some (match get k with | some v=>.fR [v,.bool true] | none=>.fR [.str [],.bool false]):=by
 have hk:eH E 9 (.str k)=true:=by unfold eH;rw[h.dJ]
 unfold pj;simp only[h.HM,h.dJ,hk,hx,hs.2 k,dm,ai,b9];cases get k <;> rfl
theorem VK(h:bG E){Z:Sg}{b:Nat}{es:List (V × V)}{get:bF->Option V}(hb:Z[b]?=some (.map es))(hs:SM E es get)(k n:bF):∃es',mapUpdate E Z 97 (.mp b) (.str k) (.str n)=some (Z.set b (.map es'))/\SM E es' λq=>if q=k then some (.str n) else get q:=by
 obtain⟨es',h1,h2⟩:=GC h (v:=.str n) k rfl hs;have hk:eH E 9 (.str k)=true:=by unfold eH;rw[h.dJ]
 refine⟨es',?_,h2⟩;unfold c9;simp only[h.HM,hk,hb,h1,fG,V.aZ,dm,j8,ai,b9,ck]
def Mk(rs:List aD)(k n:bF):Prop:=∃r∈rs,k∈r.outs/\n=r.name
theorem M3{rs:List aD}{i:Nat}{r:aD}(hr:rs[i]?=some r)(k n:bF):Mk (rs.take (i+1)) k n ↔ Mk (rs.take i) k n\/(k∈r.outs/\n=r.name):=by
 unfold Mk;rw[dz,hr];simp only[cq,Option.toList_some,cj];constructor
 ·rintro⟨q,hq | rfl,h⟩
  ·exact .inl ⟨q,hq,h⟩
  ·exact .inr h
 ·rintro (⟨q,hq,h⟩ | h)
  ·exact⟨q,.inl hq,h⟩
  ·exact⟨r,.inr rfl,h⟩
theorem aac(h:bG E){a:V}{rs:List aD}(ia:IS dU a rs)(hs:∀x∈rs,Small x)(hl:rs.length<=4294967296)(F:FT)(g0:F.get 0=a)(g3:F.get 3=.mp 0)
  (hk:∀F' Y es get,F'.get 0=a->F'.get 3=.mp 0->Y[0]?=some (.map es)->SM E es get->MK get (Mk rs)->R E (η [1,1,1] (aA dp).code) [] ⟨74,F'⟩ Y (nV E (aA dp).results K)) :
  R E (η [1,1] (aA dp).code) [] ⟨74,F⟩ [.map []] (nV E (aA dp).results K):=by
 have la:=dH h ia;rw[show η [1,1] (aA dp).code=.seq (η [1,1,0] (aA dp).code) (η [1,1,1] (aA dp).code) from rfl];generalize η [1,1,1] (aA dp).code=C at hk ⊢;simp only[aA,dp,KP,↓reduceIte,ε,η,g0,la];refine aV (λi F Y=>F.get 0=a/\F.get 3=.mp 0/\F.get 17=a/\F.get 18=.int .i64 (rs.length:Int)/\F.get 19=.int .i64 (i:Int)/\∃es get,Y[0]?=some (.map es)/\SM E es get/\MK get (Mk (rs.take i))) rs.length ?_ ?_ rs.length 0 _ _ (by omega) (kA (by simp+decide only[GS,g0,g3,aj]) ⟨[],λ_=>none,rfl,Kg,MK.nil.congr λk n=>⟨λh=>h.elim,λ⟨r,hr,_⟩=>by cases hr⟩⟩)
 ·rintro i F Y hi ⟨g0,g3,g17,g18,g19,es,get,hb,hsm,hmk⟩ next
  obtain⟨r,hr⟩:∃y,rs[i]?=some y:=⟨_,AT hi⟩;obtain⟨g,p1,p2,p3,p4,e1,i1,i2,i3,i4⟩:=fQ h ia hr;have hsr:=hs r (ag hr);have a2:=hsr.outs;have o1:=aQ i1.bE;have o2:=aQ i2.bE;have o3:=aQ i3.bE;have o4:=aQ i4.bE;have hlt:=dR hi;have hadd:=bW i (by omega);have lo:=bT h i2;have hb1:=aI (x:=ζ 46 [.str r.name,p1,p2,p3,p4] true) hb;have s1:(Y++[ζ 46 [.str r.name,p1,p2,p3,p4] true])[Y.length]?=some (ζ 46 [.str r.name,p1,p2,p3,p4] true):=aL;rw[aF];simp only[KP,ι,Ξ,↓reduceIte,δ,ε,μ,reduceCtorEq,h.bB,h.bO,g17,g18,g19,hlt,e1,o1,o2,o3,o4,aL,bP];generalize Y++[ζ 46 [.str r.name,p1,p2,p3,p4] true]=τ1 at *;generalize Y.length=y at *;simp only[KP,↓reduceIte,ε,lo];refine aV (λj F Y=>F.get 0=a/\F.get 3=.mp 0/\F.get 17=a/\F.get 18=.int .i64 (rs.length:Int)/\F.get 19=.int .i64 (i:Int)/\F.get 5=.ref y 0/\F.get 24=p2/\F.get 25=.int .i64 (r.outs.length:Int)/\F.get 26=.int .i64 (j:Int)/\Y[y]?=some (ζ 46 [.str r.name,p1,p2,p3,p4] true)/\∃es get,Y[0]?=some (.map es)/\SM E es get/\MK get λk n=>Mk (rs.take i) k n\/(k∈r.outs.take j/\n=r.name)) r.outs.length ?_ ?_ r.outs.length 0 _ _ (by omega) (BV (by simp+decide only[GS,g0,g3,g17,g18,g19,aj]) ⟨s1,es,get,hb1,hsm,hmk.congr λk n=>by simp⟩)
  ·rintro j F Y hj ⟨g0,g3,g17,g18,g19,g5,g24,g25,g26,s1,es,get,hb,hsm,hmk⟩ next2;obtain⟨s,hsj⟩:∃y,r.outs[j]?=some y:=⟨_,AT hj⟩;obtain⟨g',e2⟩:=g_ h i2 hsj;have hlt2:=dR hj;have hadd2:=bW j (by omega);obtain⟨es',hu,hsm'⟩:=VK h hb hsm s r.name;have hy0:0≠y:=qU hb s1 (by intro e;cases e);rw[aF];simp only[KP,ι,↓reduceIte,δ,ε,reduceCtorEq,h.dJ,h.bO,g3,g5,g24,g25,g26,hlt2,e2,s1,hu,hadd2];refine next2 _ _ (BV (by simp+decide only[GS,g0,g3,g17,g18,g19,g5,g24,g25,aj]) ⟨by rw[aa hy0];exact s1,es',_,by rw[br (AI.1 hb).1],hsm',(hmk.put s r.name).congr λk n=>?_⟩);rw[gF hsj];constructor
   ·rintro ((h1 | h1) | h1)
    ·exact .inl h1
    ·exact .inr ⟨.inl h1.1,h1.2⟩
    ·exact .inr ⟨.inr h1.1,h1.2⟩
   ·rintro (h1 | ⟨h1 | h1,h2⟩)
    ·exact .inl (.inl h1)
    ·exact .inl (.inr ⟨h1,h2⟩)
    ·exact .inr ⟨h1,h2⟩
  ·rintro F Y ⟨g0,g3,g17,g18,g19,g5,g24,g25,g26,s1,es,get,hb,hsm,hmk⟩;rw[ah (OF _)]at hmk;have hlt2:=dW (bt r.outs.length);rw[aF];simp only[KP,↓reduceIte,δ,ε,g19,g25,g26,hlt2,hadd];exact next _ _ (kA (by simp+decide only[GS,g0,g3,g17,g18,aj]) ⟨es,get,hb,hsm,hmk.congr λk n=>(M3 hr k n).symm⟩)
 ·rintro F Y ⟨g0,g3,g17,g18,g19,es,get,hb,hsm,hmk⟩;rw[ah (OF _)]at hmk;have hlt:=dW (bt rs.length);rw[aF];simp only[KP,↓reduceIte,ε,g18,g19,hlt];exact hk _ _ es get (by simp+decide only[GS,g0]) (by simp+decide only[GS,g3]) hb hsm hmk
theorem OL.keep{Z Y:Sg}{v:V}{l:List bF}(h:OL Z v l)(k:∀(c:Nat)(o:O),aO v=some c->Z[c]?=some o->Y[c]?=some o):OL Y v l:=by
 rcases h with h | ⟨b,cs,ex,rfl,hb,ht⟩
 ·exact .inl h
 ·exact .inr ⟨b,cs,ex,rfl,k b _ rfl hb,ht⟩
theorem OL.ok{Z:Sg}{v:V}{l:List bF}(h:OL Z v l):fG v=true:=by
 rcases h with⟨rfl,-⟩ | ⟨b,cs,ex,rfl,-⟩ <;> rfl
def Vy(v:V)(l:List bF):Prop:=(v=.aG/\l=[])\/∃full,v=.bV false (l.map λs=>[ab s]) full
theorem pU:∀l:List bF,gn 1 l.length (l.map ab)=l.map λs=>[ab s]
 | []=>rfl
 |s::l=>by
  rw[IT,bj,gn,bj];exact b8 _ (pU l)
theorem OL.snap(h:bG E){Z:Sg}{v:V}{l:List bF}{m:Nat}(ho:OL Z v l):∃v',bA Z E.ty false (m+2) v=some v'/\Vy v' l:=by
 rcases ho with⟨rfl,rfl⟩ | ⟨b,cs,ex,rfl,hb,ht⟩
 ·exact⟨.aG,rfl,.inl ⟨rfl,rfl⟩⟩
 ·have hle:l.length<=cs.length:=by
   have:=b8 List.length ht;rw[bl,bw]at this;omega
  have ht1:cs.take (l.length*1)=l.map ab:=by rw[pg];exact ht
  obtain⟨full,e⟩:=H7 (g:=false) (n:=l.length) (m:=m) hb h.dJ (show l.length*1<=_ by omega) (λc hcm=>by
   rw[show cs.take (l.length*1)=l.map ab from ht1]at hcm;obtain⟨s,-,rfl⟩:=cv.1 hcm;exact⟨rfl,rfl⟩)
  refine⟨_,e,.inr ⟨full,?_⟩⟩;show V.bV false (gn 1 l.length (cs.take (l.length*1))) full=_;rw[ht1,pU]
theorem Vy.tag{v:V}{l:List bF}(h:Vy v l):cI false v=true:=by
 rcases h with⟨rfl,-⟩ | ⟨full,rfl⟩ <;> rfl
def Ew(Y:Sg)(N:aD->bF->Prop)(es:List (V × V))(rs:List aD):Prop:=eL (λe r=>e.1=ab r.name/\∃l,OL Y e.2 l/\l.length<=1000000/\∀x,x∈l ↔ N r x) es rs
def Cj(N:aD->bF->Prop)(es:List (V × V))(rs:List aD):Prop:=eL (λe r=>e.1=ab r.name/\∃l,Vy e.2 l/\l.length<=1000000/\∀x,x∈l ↔ N r x) es rs
theorem Ew.keep{Z Y:Sg}{N:aD->bF->Prop}{mA:Nat}{em:List (V × V)}{es:List (V × V)}{rs:List aD}(h:Ew Z N es rs)(hm:Z[mA]?=some (.map em))(k:∀(c:Nat)(o:O),Z[c]?=some o->c≠mA->Y[c]?=some o):Ew Y N es rs:=by
 refine eL.imp h λe r ⟨h1,l,h2,h3⟩=>⟨h1,l,h2.keep λc o hc ho=>k c o ho ?_,h3⟩;rintro rfl;rcases h2 with⟨e0,-⟩ | ⟨b,cs,ex,e0,hb,-⟩
 ·rw[e0]at hc;cases hc
 ·rw[e0]at hc;cases hc;rw[hm]at hb;cases hb
theorem Dj(h:bG E){k:bF}{v:V}:∀{es:List (V × V)},(∀e∈es,∃q,e.1=ab q/\q≠k)->kX (dG E 9) (.str k) v es=some (es++[(.str k,v)])
 | [],_=>rfl
 |(k0,v0)::es,hs=>by
  obtain⟨q,e1,hq⟩:=hs _ (No ..);dsimp only at e1;subst e1;rw[kX,cH h,gW (kg hq)];simp only[Dj h λe he=>hs e (ae _ he)];rfl
theorem SG(h:bG E){Y:Sg}{b:Nat}{N:aD->bF->Prop}{es:List (V × V)}{rs:List aD}{r:aD}{v:V}{l:List bF}(hb:Y[b]?=some (.map es))(ha:Ew Y N es rs)(hn:∀q∈rs,q.name≠r.name)(hv:OL Y v l)(hl:l.length<=1000000)(hm:∀x,x∈l ↔ N r x) :
  mapUpdate E Y 107 (.mp b) (.str r.name) v=some (Y.set b (.map (es++[(.str r.name,v)])))/\Ew (Y.set b (.map (es++[(.str r.name,v)]))) N (es++[(.str r.name,v)]) (rs++[r]):=by
 have hk:eH E 9 (.str r.name)=true:=by unfold eH;rw[h.dJ]
 have hp:=Dj (v:=v) (k:=r.name) h (es:=es) λe he=>by
  obtain⟨q,hq,h1,-⟩:=eL.mem ha he;exact⟨q.name,h1,hn q hq⟩
 have hkeep:∀(c:Nat)(o:O),Y[c]?=some o->c≠b->(Y.set b (.map (es++[(.str r.name,v)])))[c]?=some o:=λc o hc hcb=>by
  rw[aa (kg hcb)];exact hc
 refine⟨?_,?_⟩
 ·unfold c9;simp only[h.Yw,hk,hb,hp,hv.ok,dm,j8,ai,b9,ck]
 ·refine eL.append (ha.keep hb hkeep) (.cons ⟨rfl,l,hv.keep λc o hc ho=>hkeep c o ho ?_,hl,hm⟩ .nil);rintro rfl;rcases hv with⟨e0,-⟩ | ⟨b',cs,ex,e0,hb',-⟩
  ·rw[e0]at hc;cases hc
  ·rw[e0]at hc;cases hc;rw[hb]at hb';cases hb'
theorem PO(h:bG E){Y:Sg}{b:Nat}{N:aD->bF->Prop}{es:List (V × V)}{rs:List aD}(hb:Y[b]?=some (.map es))(ha:Ew Y N es rs):∃es',cQ Y E.ty false (.mp b)=some (.imp false es')/\Cj N es' rs:=by
 have key:∀{es:List (V × V)}{rs:List aD},Ew Y N es rs->∃es',aW (λ(e:V × V)=>if e.1.cells.all n7 then (match e.2 with
   | .agg cs=>match aW (λv=>match bA Y E.ty false 11 v with
     |some v=>if cI false v then some v else Ax.no "snap: borrowed"
     |none=>none) cs with
    |some cs=>some (e.1,V.agg cs)
    |none=>none
   |v=>match (match bA Y E.ty false 11 v with
     |some v=>if cI false v then some v else Ax.no "snap: borrowed"
     |none=>none) with
    |some v=>some (e.1,v)
    |none=>none) else none) es=some es'/\Cj N es' rs:=by
  intro es rs ha
  induction ha with
  |nil=>exact⟨[],rfl,.nil⟩
  | @cons e r es rs h1 _ ih=>
   obtain⟨es',e1,a1⟩:=ih;obtain⟨a,v⟩:=e;obtain⟨h2,l,h3,h4,h5⟩:=h1;dsimp only at h2 h3;subst h2;obtain⟨v',e2,sv⟩:=h3.snap (m:=9) h;refine⟨(.str r.name,v')::es',?_,.cons ⟨rfl,l,sv,h4,h5⟩ a1⟩;rw[aW];have hpc:(ab r.name).cells.all n7=true:=rfl;have ht:=sv.tag;rcases h3 with⟨rfl,-⟩ | ⟨b',cs,ex,rfl,-⟩
   ·simp only[hpc,bf,e2,ht,e1]
   ·simp only[hpc,bf,e2,ht,e1]
 obtain⟨es',e1,a1⟩:=key ha;refine⟨es',?_,a1⟩
 have e:bA Y E.ty false 12 (.mp b)=some (.imp false es'):=by
  rw[bA];simp only[hb]
  exact b8 (λo=>match o with
   |some l=>some (V.imp false l)
   |none=>none) e1
 show aR.one Y E.ty false (.mp b)=_;unfold aR.one;rw[show dN=12 from rfl,e];rfl
theorem WO(h:bG E){τ0 Y:Sg}{w p1 p2 p3 p4:V}{l:List bF}{r:aD}{y mA:Nat}{es:List (V × V)}{N:aD->bF->Prop}{rs:List aD}(ow:aY aP 9 Y w l)(hl:l.length<=1000000)(kp:Kp τ0 Y)(fr:∀b,aO w=some b->τ0.length<=b)(hy:τ0[y]?=some (ζ 46 [.str r.name,p1,p2,p3,p4] true))(hA:τ0[mA]?=some (.map es))(ha:Ew τ0 N es rs)(hn:∀q∈rs,q.name≠r.name)(hm:∀x,x∈l ↔ N r x)
  (F:FT)(g8:F.get 8=.mp mA)(g10:F.get 10=.ref y 0)(g11:F.get 11=w){st:List iT}{Q:Ax.X->Fr->Sg->Prop}
  (hk:∀F' τ' es',(∀k,k∈[0,3,8,37,38,39]->F'.get k=F.get k)->τ'[mA]?=some (.map es')->Ew τ' N es' (rs++[r])->(∀(c:Nat)(o:O),τ0[c]?=some o->c≠mA->τ'[c]?=some o)->M E st .normal ⟨74,F'⟩ τ' Q):R E (.region 24 (Φ (η [1,1,1,1,0,1,2,2,1,1,0,2,1,1,1,1] (aA dp).code)) true) st ⟨74,F⟩ Y Q:=by
 obtain⟨n,v,τ1,hcall,⟨l',ol,hle,hmem⟩,hbk,sp,hlen⟩:=OK h ow hl;have kp1:Kp τ0 τ1:=λc o hc=>sp c o (kp c o hc) λe=>absurd (AI.1 hc).1 (by have:=fr c e;omega);have hy0:=kp _ _ hy;have hy1:=kp1 _ _ hy;have hA1:=kp1 _ _ hA;obtain⟨hu,ha2⟩:=SG h hA1 (ha.keep hA λc o hc _=>kp1 c o hc) hn ol (by omega) (λx=>(hmem x).trans (hm x));have vs:=Br 11 r.name
 have key:∃F',cP E (ev E n) (Φ (η [1,1,1,1,0,1,2,2,1,1,0,2,1,1,1,1] (aA dp).code)) ⟨74,F⟩ Y=some (⟨74,F'⟩,τ1.set mA (.map (es++[(.str r.name,v)])))/\(∀k,k∈[0,3,8,37,38,39]->F'.get k=F.get k):=by
  unfold cP;rw[h.Su,h.Th];simp only[aA,dp,KP,ι,↓reduceIte,δ,ε,μ,reduceCtorEq,h.dJ,h.bO,Φ,η,iQ,bN,cE,lD,nz,pu,iM,ly,aT,g8,g10,g11,hy0,hy1,hcall,hu,vs];refine⟨_,rfl,λk hk=>?_⟩;simp only[IN,bz,ek]at hk;rcases hk with rfl | rfl | rfl | rfl | rfl | rfl <;> simp+decide only[GS]
 obtain⟨F',hD,h1⟩:=key;refine Eq.mpr (iW hD) (hk F' _ _ h1 (by rw[br (AI.1 hA1).1]) ha2 λc o hc hcm=>?_);rw[aa (kg hcm)];exact kp1 c o hc
def Nx(rs:List aD)(r:aD)(x:bF):Prop:=x∈r.after\/∃f∈r.ins,Mk rs f x
structure Gh (rs:List aD):Prop where
 names:∀r∈rs,r.name.length<=40
 Yc:∀r∈rs,∀s∈r.after,s.length<=40
 nodup:∀(i j:Nat)(p q:aD),rs[i]?=some p->rs[j]?=some q->p.name=q.name->i=j
 jW:∀f n m,Mk rs f n->Mk rs f m->n=m
theorem Mk.short{rs:List aD}(h:Gh rs){f n:bF}(hm:Mk rs f n):n.length<=40:=by
 obtain⟨r,hr,-,rfl⟩:=hm;exact h.names r hr
theorem aab(h:bG E){a:V}{rs:List aD}(ia:IS dU a rs)(hs:∀x∈rs,Small x)(hsh:Gh rs)(hl:rs.length<=1000){Y:Sg}{es0:List (V × V)}{get:bF->Option V}(h0:Y[0]?=some (.map es0))(hsm:SM E es0 get)(hmk:MK get (Mk rs))(F:FT)(g0:F.get 0=a)(g3:F.get 3=.mp 0) :
  R E (η [1,1,1] (aA dp).code) [] ⟨74,F⟩ Y (nV E (aA dp).results (λv σ1=>match cQ σ1 E.ty false v with
   |some v=>∃es,v=.imp false es/\Cj (Nx rs) es rs
   |none=>False)):=by
 have la:=dH h ia;have rest:=λ{τ0 Y w p1 p2 p3 p4 l r y mA es rs'} ow hl' kp fr hy hA ha hn hm F g8 g10 g11 st Q hk=>WO (τ0:=τ0) (Y:=Y) (w:=w) (p1:=p1) (p2:=p2) (p3:=p3) (p4:=p4) (l:=l) (r:=r) (y:=y) (mA:=mA) (es:=es) (N:=Nx rs) (rs:=rs') h ow hl' kp fr hy hA ha hn hm F g8 g10 g11 (st:=st) (Q:=Q) hk;simp only[aA,dp,KP,↓reduceIte,ε,reduceCtorEq,η,g0,la];have hA0:(Y++[qe []])[Y.length]?=some (.map []):=aL;have h00:=aI (x:=qe []) h0;have hmA:Y.length≠0:=by have:=(AI.1 h0).1;omega
 generalize Y++[qe []]=τ1 at *;generalize Y.length=mA at *;refine aV (λi F Y=>F.get 0=a/\F.get 3=.mp 0/\F.get 8=.mp mA/\F.get 37=a/\F.get 38=.int .i64 (rs.length:Int)/\F.get 39=.int .i64 (i:Int)/\Y[0]?=some (.map es0)/\∃es,Y[mA]?=some (.map es)/\Ew Y (Nx rs) es (rs.take i)) rs.length ?_ ?_ rs.length 0 _ _ (by omega) (sF (by simp+decide only[GS,g0,g3,aj]) ⟨h00,[],hA0,.nil⟩)
 ·rintro i F Y hi ⟨g0,g3,g8,g37,g38,g39,h0,es,hA,ha⟩ next
  obtain⟨r,hr⟩:∃y,rs[i]?=some y:=⟨_,AT hi⟩;have hrm:=ag hr;obtain⟨g,p1,p2,p3,p4,e1,i1,i2,i3,i4⟩:=fQ h ia hr;have hsr:=hs r hrm;have a1:=hsr.ins;have a3:=hsr.after;have o1:=aQ i1.bE;have o2:=aQ i2.bE;have o3:=aQ i3.bE;have o4:=aQ i4.bE;have hlt:=dR hi;have hadd:=bW i (by omega);have li:=bT h i1
  have hnn:∀q∈rs.take i,q.name≠r.name:=λq hq e=>by
   obtain⟨j,hj⟩:=gr.1 hq;have hji:j<i:=by have:=(AI.1 hj).1;rw[bl]at this;omega
   rw[fu hji]at hj;have:=hsh.nodup j i q r hj hr e;omega
  have hb1:=aI (x:=ζ 46 [.str r.name,p1,p2,p3,p4] true) h0;have hA1:=aI (x:=ζ 46 [.str r.name,p1,p2,p3,p4] true) hA;have ha1:Ew (Y++[ζ 46 [.str r.name,p1,p2,p3,p4] true]) (Nx rs) es (rs.take i):=ha.keep hA λc o hc _=>aI hc;have s1:(Y++[ζ 46 [.str r.name,p1,p2,p3,p4] true])[Y.length]?=some (ζ 46 [.str r.name,p1,p2,p3,p4] true):=aL;rw[aF];simp only[KP,ι,Ξ,↓reduceIte,δ,ε,μ,reduceCtorEq,h.bB,h.bO,g37,g38,g39,hlt,e1,o1,o2,o3,o4,aL,bP];generalize Y++[ζ 46 [.str r.name,p1,p2,p3,p4] true]=τ1 at *;generalize Y.length=y at *;refine aK (tZ h i3 (by omega)) ?_;rintro w0 τ2 ⟨ow0,kp0,fr0⟩;have s2:=kp0 _ _ s1;simp only[KP,ι,↓reduceIte,δ,ε,reduceCtorEq,h.bB,h.bO,s2,li];refine aV (λj F Y=>F.get 0=a/\F.get 3=.mp 0/\F.get 8=.mp mA/\F.get 37=a/\F.get 38=.int .i64 (rs.length:Int)/\F.get 39=.int .i64 (i:Int)/\F.get 10=.ref y 0/\F.get 47=p1/\F.get 48=.int .i64 (r.ins.length:Int)/\F.get 49=.int .i64 (j:Int)/\Kp τ1 Y/\∃w cur,F.get 11=w/\aY aP 9 Y w cur/\(∀b,aO w=some b->τ1.length<=b)/\cur.length<=r.after.length+j/\(∀x∈cur,x.length<=40)/\∀x,x∈cur ↔ x∈r.after\/∃f∈r.ins.take j,Mk rs f x) r.ins.length ?_ ?_ r.ins.length 0 _ _ (by omega) (KW (by simp+decide only[GS,g0,g3,g8,g37,g38,g39,aj]) ⟨kp0,w0,r.after,(by simp+decide only[GS]),ow0,fr0,OF _,hsh.Yc r hrm,λx=>by simp⟩)
  ·rintro j F Y hj ⟨g0,g3,g8,g37,g38,g39,g10,g47,g48,g49,kp,w,cur,g11,ow,fr,hcl,hc40,hmem⟩ next2;obtain⟨s,hsj⟩:∃y,r.ins[j]?=some y:=⟨_,AT hj⟩;obtain⟨g',e2⟩:=g_ h i1 hsj;have hlt2:=dR hj;have hadd2:=bW j (by omega);have hb2:=kp _ _ hb1;have hlk:=Tt (Z:=Y) (x:=.mp 0) h (by unfold bm;simp only[hb2]) hsm s
   have hex:∀x,(∃f∈r.ins.take (j+1),Mk rs f x) ↔ (∃f∈r.ins.take j,Mk rs f x)\/Mk rs s x:=λx=>by
    constructor
    ·rintro⟨f,hf,hm⟩;rcases (gF hsj f).1 hf with hf | rfl
     ·exact .inl ⟨f,hf,hm⟩
     ·exact .inr hm
    ·rintro (⟨f,hf,hm⟩ | hm)
     ·exact⟨f,(gF hsj f).2 (.inl hf),hm⟩
     ·exact⟨s,(gF hsj s).2 (.inr rfl),hm⟩
   rw[aF];rcases hmk s with⟨hg,hno⟩ | ⟨n,hP,hg⟩
   ·rw[hg]at hlk;simp only[KP,ι,↓reduceIte,δ,ε,h.dJ,g3,g47,g48,g49,hlt2,e2,hlk,hadd2];refine next2 _ _ (KW (by simp+decide only[GS,g0,g3,g8,g37,g38,g39,g10,g47,g48,aj]) ⟨kp,w,cur,(by simp+decide only[GS,g11]),ow,fr,by omega,hc40,λx=>?_⟩);rw[hmem,hex];exact⟨λh=>h.elim .inl λg=>.inr (.inl g),λh=>h.elim .inl λg=>.inr (g.elim id λg=>absurd g (hno x))⟩
   ·rw[hg]at hlk;obtain⟨w',τ',hap,ow',sp',hln',fr'⟩:=kB (ats:=#[24,24]) (m:=[n]) (new:=[[.str n]]) h.bB rfl h.dJ rfl (by decide) (kF h) rfl (ow.app [.cells 9 [.str n] true]) (mI rfl) (.one rfl) (dO (b:=1000) (by decide) (by simp only[IT,aq];omega));simp only[KP,ι,↓reduceIte,δ,ε,ω,ap,h.dJ,h.bB,g3,g11,g47,g48,g49,hlt2,e2,hlk,lM,hap,hadd2];refine next2 _ _ (KW (by simp+decide only[GS,g0,g3,g8,g37,g38,g39,g10,g47,g48,aj]) ⟨λc o hc=>sp' c o (aI (kp c o hc)) λe=>absurd (AI.1 hc).1 (by have:=fr c e;omega),w',cur++[n],(by simp+decide only[GS]),ow',λb hb=>?_,by rw[By,dj];omega,λx hx=>?_,λx=>?_⟩)
    ·rcases fr' b hb with g | g
     ·exact fr b g
     ·have h1:=(AI.1 (kp _ _ s1)).1
      have h2:τ1.length<=Y.length:=by
       refine oz λhlt=>?_;obtain⟨o,ho⟩:∃o,τ1[Y.length]?=some o:=⟨_,AT hlt⟩;exact absurd (AI.1 (kp _ _ ho)).1 (bt _)
      simp only[By,IT,aq]at g;omega
    ·rcases cq.1 hx with hx | hx
     ·exact hc40 x hx
     ·rw[cj.1 hx];exact hP.short hsh
    ·rw[cq,hmem,hex,cj];constructor
     ·rintro ((h1 | h1) | rfl)
      ·exact .inl h1
      ·exact .inr (.inl h1)
      ·exact .inr (.inr hP)
     ·rintro (h1 | h1 | h1)
      ·exact .inl (.inl h1)
      ·exact .inl (.inr h1)
      ·exact .inr (hsh.jW s x n h1 hP)
  ·rintro F Y ⟨g0,g3,g8,g37,g38,g39,g10,g47,g48,g49,kp,w,cur,g11,ow,fr,hcl,hc40,hmem⟩;rw[ah (OF _)]at hmem;have hlt2:=dW (bt r.ins.length);obtain⟨τ3,cur',hS,hperm,ow3,Ss,hln3⟩:=FM ow (by omega) (λx hx=>by have:=hc40 x hx;omega);have ks:=dX (λK=>show aB E 79 [w] Y K=K (.fR []) τ3 by rw[mO h.Re,hS];rfl);have kp3:Kp τ1 τ3:=λc o hc=>Ss c o (kp c o hc) λe=>absurd (AI.1 hc).1 (by have:=fr c e;omega);rw[aF];simp only[KP,↓reduceIte,δ,ε,g11,g48,g49,hlt2,ks];refine rest (rs':=rs.take i) ow3 (by rw[hperm.length_eq];omega) kp3 fr s1 hA1 ha1 hnn (λx=>?_) _ ?_ ?_ ?_ _ _ ?_
   ·rw[hperm.mem_iff,hmem];exact qh
   ·simp+decide only[GS,g8]
   ·simp+decide only[GS,g10]
   ·simp+decide only[GS,g11]
   intro F' τ' es' hF hA' ha' hk';have q0:F'.get 0=a:=(hF 0 (by simp)).trans (by simp+decide only[GS,g0]);have q3:F'.get 3=.mp 0:=(hF 3 (by simp)).trans (by simp+decide only[GS,g3]);have q8:F'.get 8=.mp mA:=(hF 8 (by simp)).trans (by simp+decide only[GS,g8]);have q37:F'.get 37=a:=(hF 37 (by simp)).trans (by simp+decide only[GS,g37]);have q38:F'.get 38=.int .i64 (rs.length:Int):=(hF 38 (by simp)).trans (by simp+decide only[GS,g38]);have q39:F'.get 39=.int .i64 (i:Int):=(hF 39 (by simp)).trans (by simp+decide only[GS,g39]);simp only[KP,↓reduceIte,ε,q39,hadd];refine next _ _ (sF (by simp+decide only[GS,q0,q3,q8,q37,q38,aj]) ⟨hk' 0 _ hb1 (kg hmA),es',hA',?_⟩)
   rw[dz,hr];exact ha'
 ·rintro F Y ⟨g0,g3,g8,g37,g38,g39,h0,es,hA,ha⟩;rw[ah (OF _)]at ha;obtain⟨es',e1,a1⟩:=PO h hA ha;have hlt:=dW (bt rs.length);rw[aF];simp only[KP,↓reduceIte,δ,ε,g8,g38,g39,hlt,e1];exact⟨es',rfl,a1⟩
theorem UM(h:bG E){a:V}{rs:List aD}(ha:LS dU 46 Z a rs)(hs:∀x∈rs,Small x)(hsh:Gh rs)(hl:rs.length<=1000):aB E 158 [a] Z λv σ'=>σ'=Z/\∃es,v=.imp false es/\Cj (Nx rs) es rs:=by
 obtain⟨a',ea,ia⟩:=fI h ha;rw[aH h.abD h.Y4 h.acB h.aaC (args':=[a']) (by simp only[aW,ea]),aU (by kernel_rfl)];have key:=λY es0 get h0 hsm hmk F g0 g3=>aab (Y:=Y) (es0:=es0) (get:=get) h ia hs hsh hl h0 hsm hmk F g0 g3
 have k2:=λF g0 g3 hk=>aac (K:=λv σ1=>match cQ σ1 E.ty false v with
   |some v=>∃es,v=.imp false es/\Cj (Nx rs) es rs
   |none=>False) h ia hs (by omega) F g0 g3 hk
 rw[show (aA dp).code=.seq (η [0] (aA dp).code) (.seq (η [1,0] (aA dp).code) (η [1,1] (aA dp).code)) from rfl];generalize η [1,1] (aA dp).code=C at k2 ⊢;simp only[aA,dp,KP,↓reduceIte,ε,η];refine k2 _ ?_ ?_ λF' Y es get g0 g3 hb hsm hmk=>key Y es get hb hsm hmk F' g0 g3
 ·simp+decide only[GS]
 ·simp+decide only[GS]
theorem Cj.back{N:aD->bF->Prop}:∀{es:List (V × V)}{rs:List aD},Cj N es rs->oO es=true/\es.map ks=rs.map aD.name/\es.length=rs.length
 |_,_,.nil=>⟨rfl,rfl,rfl⟩
 |(a,v)::es,r::rs,.cons h t=>by
  obtain⟨h1,l,h2,h3,-⟩:=h;obtain⟨i1,i2,i3⟩:=Cj.back (N:=N) t;dsimp only at h1 h2;subst h1;refine⟨?_,?_,by rw[IT,IT,i3]⟩
  ·have hr:∀l:List bF,wD (l.map λs=>[ab s])=true:=λl=>by
    induction l with
    |nil=>rfl
    |cons s l ih=>rw[bj,wD];exact ih
   rcases h2 with⟨rfl,-⟩ | ⟨full,rfl⟩
   ·rw[oO];exact i1
   ·rw[oO,hr,bw,jz h3];exact i1
  ·rw[bj,bj,i2];rfl
theorem BC:∀l:List bF,nY (l.map λs=>[ab s])=l
 | []=>rfl
 |s::l=>by rw[bj,nY,BC l]
theorem Vy.list{v:V}{l:List bF}(h:Vy v l):jB v=l:=by
 rcases h with⟨rfl,rfl⟩ | ⟨full,rfl⟩
 ·rfl
 ·exact BC l
theorem zQ:∀{es:List (V × V)},jK es->(es.map ks).Nodup->h_ es=true
 | [],_,_=>rfl
 |e::es,ha,hn=>by
  obtain⟨k,hk⟩:=ha _ (No ..);obtain⟨a,v⟩:=e;dsimp only at hk;subst hk;rw[bj,dw]at hn
  have hh:∀{l:List (V × V)},jK l->k ∉ l.map ks->h_.hasKey k l=false:=by
   intro l
   induction l with
   |nil=>intro _ _;rfl
   |cons e l ih=>
    intro ha hk;obtain⟨q,hq⟩:=ha _ (No ..);obtain⟨b,u⟩:=e;dsimp only at hq;subst hq;rw[bj,IN,ql]at hk;rw[h_.hasKey,show Ax.seq q k=false from kV.2 (λe=>hk.1 e.symm)];exact ih (λe he=>ha e (ae _ he)) hk.2
  rw[h_,hh (λe he=>ha e (ae _ he)) hn.1];exact zQ (λe he=>ha e (ae _ he)) hn.2
structure NM (rs:List aD) (es:List (V × V)):Prop where
 ok:oO es=true
 keys:es.map ks=rs.map aD.name
 nodup:(es.map ks).Nodup
 nd:h_ es=true
 len:es.length=rs.length
 next:∀r∈rs,∀x,x∈cC es r.name ↔ Nx rs r x
theorem Cj.mem{N:aD->bF->Prop}:∀{es:List (V × V)}{rs:List aD},Cj N es rs->∀r∈rs,∃v l,(ab r.name,v)∈es/\Vy v l/\∀x,x∈l ↔ N r x
 |_,_,.nil,r,hr=>by cases hr
 |(a,v)::es,q::rs,.cons h t,r,hr=>by
  rcases IN.1 hr with rfl | hr
  ·obtain⟨h1,l,h2,h3,h4⟩:=h;dsimp only at h1;subst h1;exact⟨v,l,No ..,h2,h4⟩
  ·obtain⟨v',l,h1,h2,h3⟩:=Cj.mem (N:=N) t r hr;exact⟨v',l,ae _ h1,h2,h3⟩
theorem vI:∀{rs:List aD},(∀(i j:Nat)(p q:aD),rs[i]?=some p->rs[j]?=some q->p.name=q.name->i=j)->(rs.map aD.name).Nodup
 | [],_=>px
 |r::rs,h=>by
  rw[bj,dw]
  refine⟨λhm=>?_,vI λi j p q hp hq e=>by
   have:=h (i+1) (j+1) p q hp hq e;omega⟩
  obtain⟨q,hq,e⟩:=cv.1 hm;obtain⟨j,hj⟩:=gr.1 hq;have:=h 0 (j+1) r q rfl hj e.symm;omega
theorem aaa{rs:List aD}{es:List (V × V)}(hsh:Gh rs)(h:Cj (Nx rs) es rs):NM rs es:=by
 obtain⟨h1,h2,h3⟩:=h.back;have hn:(es.map ks).Nodup:=by rw[h2];exact vI hsh.nodup
 have hb:=yL h1;refine⟨h1,h2,hn,zQ (λe he=>(hb e he).1) hn,h3,λr hr x=>?_⟩;obtain⟨v,l,hm,hv,hx⟩:=h.mem r hr;rw[yB hb hn hm,hv.list];exact hx x
theorem BX{L:List (List (List Nat))}:∀{l:List (List Nat)},jD L l=none ↔ ∀a∈l,gE a L=none
 | []=>⟨λ_ a h=>(by cases h),λ_=>rfl⟩
 |a::l=>by
  rw[jD];have ih:=BX (L:=L) (l:=l);cases hd:gE a L with
  |none=>
   dsimp only;rw[ih];exact⟨λh x hx=>(IN.1 hx).elim (λe=>by rw[e];exact hd) (h x),λh x hx=>h x (ae _ hx)⟩
  |some d=>
   refine⟨λh=>?_,λh=>?_⟩
   ·cases hb:jD L l with
    |none=>rw[hb]at h;cases h
    |some e=>
     rw[hb]at h;dsimp only at h;split at h <;> cases h
   ·have:=h a (No ..);rw[hd]at this;cases this
theorem Fj{es:List (V × V)}(hb:gQ es){f:List Nat}:∀(k:Nat)(x:List Nat),EP es f k x->(∀j,j<k->¬ EP es f j x)->∃ys:List (List Nat),ys.length=k/\ys.Nodup/\(∀y∈ys,y∈es.map ks)/\∀y∈ys,∃j,1<=j/\j<=k/\EP es f j y/\∀i,i<j->¬ EP es f i y
 |0,x,_,_=>⟨[],rfl,px,λ_ h=>(by cases h),λ_ h=>(by cases h)⟩
 |k+1,x,.succ (nx:=nx) hx hr,hm=>by
  have hmin:∀j,j<k->¬ EP es f j nx:=λj hj h=>hm (j+1) (by omega) (.succ hx h);obtain⟨ys,h1,h2,h3,h4⟩:=Fj hb k nx hr hmin;refine⟨x::ys,by rw[IT,h1],dw.2 ⟨λhxy=>?_,h2⟩,λy hy=>?_,λy hy=>?_⟩
  ·obtain⟨j,j1,j2,j3,j4⟩:=h4 x hxy;exact hm j (by omega) j3
  ·rcases IN.1 hy with rfl | hy
   ·obtain⟨v,hv,-⟩:=Dg hb hx;exact cv.2 ⟨_,hv,rfl⟩
   ·exact h3 y hy
  ·rcases IN.1 hy with rfl | hy
   ·exact⟨k+1,by omega,OF _,.succ hx hr,hm⟩
   ·obtain⟨j,j1,j2,j3⟩:=h4 y hy;exact⟨j,j1,by omega,j3⟩
theorem Qa{es:List (V × V)}(hb:gQ es)(hn:(es.map ks).Nodup){f x:List Nat}{k:Nat}(h:EP es f k x):∃d,uK es f x=some d:=by
 have:∃d,EP es f d x/\∀j,j<d->¬ EP es f j x:=by
  induction k using Nat.strongRecOn with
  |_ k ih=>
   by_cases hex:∃j,j<k/\EP es f j x
   ·obtain⟨j,hj,hr⟩:=hex;exact ih j hj hr
   ·exact⟨k,h,λj hj hr=>hex ⟨j,hj,hr⟩⟩
 obtain⟨d,hr,hm⟩:=this;obtain⟨ys,h1,h2,h3,-⟩:=Fj hb d x hr hm;have:=AX h2 h3;rw[h1,bw]at this;exact⟨d,(lY hb hn).2 ⟨this,hr,hm⟩⟩
theorem Jo{rs:List aD}{es:List (V × V)}(h:NM rs es)(f:bF):jD (d_ es es.length [f]) (cC es f)≠none ↔ ∃n,EP es f (n+1) f:=by
 have hb:=yL h.ok;constructor
 ·intro hne
  have hne:∃b,jD (d_ es es.length [f]) (cC es f)=some b:=by
   cases he:jD (d_ es es.length [f]) (cC es f) with
   |none=>exact absurd he hne
   |some b=>exact⟨b,rfl⟩
  obtain⟨b,hbo⟩:=hne;obtain⟨a,ha,hd⟩:=Am _ _ _ hbo;exact⟨b,.succ ha ((lY hb h.nodup).1 hd).2.1⟩
 ·rintro⟨n,hr⟩ hno;cases hr with
  |succ hx hr=>
   obtain⟨d,hd⟩:=Qa hb h.nodup hr;have:=BX.1 hno _ hx;rw[show gE _ (d_ es es.length [f])=some d from hd]at this;cases this
theorem gM{α:Type}{p:α->Bool}:∀{l:List α}{k:Nat},bR p l=some k->∃x,l[k]?=some x/\p x=true
 | [],_,h=>by cases h
 |x::l,k,h=>by
  rw[bR]at h;by_cases hx:p x=true
  ·rw[az hx]at h;cases h;exact⟨x,rfl,hx⟩
  ·rw[an hx]at h;cases hf:bR p l with
   |none=>rw[hf]at h;cases h
   |some j=>
    rw[hf]at h;cases h;obtain⟨y,h1,h2⟩:=gM hf;exact⟨y,h1,h2⟩
structure Good (rs:List aD):Prop where
 short:Gh rs
 known:∀r∈rs,∀n∈r.after,i_ rs n=true
 len:rs.length<=40
 rule:∀r∈rs,bD r=0
theorem Mg{s:bF}(h:bL s=true):s.length<=40:=by
 unfold bL at h;simp only[ak,af]at h;exact h.1.2
theorem tP{rs:List aD}(h:gZ rs=0):Good rs:=by
 unfold gZ at h;cases hf:rs.find? (λr=>decide (bD r≠0)) with
 |some r=>
  rw[hf]at h;have:=List.find?_some hf;rw[af]at this;exact absurd h this
 |none=>
  rw[hf]at h;dsimp only at h
  have hr:∀r∈rs,bD r=0:=λr hr=>by
   have:=lj.1 hf r hr;simpa using this
  by_cases h40:40<rs.length
  ·rw[az h40]at h;cases h
  rw[an h40]at h;cases hc:tW rs with
  |true=>rw[az hc]at h;cases h
  |false=>
  rw[an (by rw[hc];simp)]at h;cases hst:iC rs with
  |true=>rw[az hst]at h;cases h
  |false=>
  have hcl:∀i r,rs[i]?=some r->i_ (rs.take i) r.name=false/\r.outs.any (xF (rs.take i))=false:=λi r hi=>by
   have:=mj.1 hc i (k8.2 (AI.1 hi).1);rw[Ec hi]at this;simpa using this
  have hform:∀r∈rs,bL r.name=true/\r.after.all bL=true:=λr hm=>by
   have:=hr r hm;unfold bD at this;by_cases hfo:lE r=false
   ·rw[az hfo]at this;cases this
   ·have hfo:lE r=true:=by simpa using hfo
    unfold lE at hfo;simp only[ak]at hfo;exact⟨hfo.1.1.1.1.1,hfo.1.2⟩
  have before:∀(i j:Nat)(p:aD),j<i->rs[j]?=some p->p∈rs.take i:=λi j p hji hj=>ag (by rw[fu hji];exact hj);refine⟨⟨λr hm=>Mg (hform r hm).1,λr hm s hs=>Mg (eu.1 (hform r hm).2 s hs),?_,?_⟩,λr hm n hn=>?_,by omega,hr⟩
  ·have key:∀(i j:Nat)(p q:aD),j<i->rs[i]?=some p->rs[j]?=some q->p.name≠q.name:=λi j p q hji hp hq e=>by
    have:=(hcl i p hp).1;rw[show i_ (rs.take i) p.name=true from fh.2 ⟨q,before i j q hji hq,BY e.symm⟩]at this;cases this
   intro i j p q hp hq e;rcases jn i j with g | g | g
   ·exact absurd e.symm (key j i q p g hq hp)
   ·exact g
   ·exact absurd e (key i j p q g hp hq)
  ·have key:∀(i j:Nat)(p q:aD)(f:bF),j<i->rs[i]?=some p->rs[j]?=some q->f∈p.outs->f∈q.outs->False:=λi j p q f hji hp hq h1 h2=>by
    have:=(hcl i p hp).2;rw[show p.outs.any (xF (rs.take i))=true from fh.2 ⟨f,h1,fh.2 ⟨q,before i j q hji hq,BY h2⟩⟩]at this;cases this
   rintro f n m ⟨p,hp,h1,rfl⟩ ⟨q,hq,h2,rfl⟩;obtain⟨i,hi⟩:=gr.1 hp;obtain⟨j,hj⟩:=gr.1 hq;rcases jn i j with g | g | g
   ·exact(key j i q p f g hj hi h2 h1).elim
   ·subst g;rw[hi]at hj;cases hj;rfl
   ·exact(key i j p q f g hi hj h1 h2).elim
  ·have h1:=mj.1 hst r hm;have h2:(r.after.any λn=>decide (gL rs n=none))=false:=by simpa using h1
   have h3:=mj.1 h2 n hn;rw[uW]at h3;simpa using h3
theorem Dh{rs:List aD}{es:List (V × V)}(g:Good rs)(h:NM rs es){i:Nat}{r:aD}(hi:rs[i]?=some r)(x:bF):x∈cC es r.name ↔ ∃k q,iZ rs false i k=true/\rs[k]?=some q/\q.name=x:=by
 have hm:=ag hi;rw[h.next r hm]
 have hd:∀k,iZ rs false i k=true ↔ (∃f∈r.ins,fO rs f=some k)\/∃n∈r.after,gL rs n=some k:=λk=>by
  unfold iZ wL;rw[hi];simp only[mg,jd,fl,fh,af]
 constructor
 ·rintro (hx | ⟨f,hf,hmk⟩)
  ·have hk:=g.known r hm x hx;unfold i_ at hk;rw[<- cO]at hk;obtain⟨k,hk⟩:=ji.1 hk;obtain⟨q,h1,h2⟩:=gM hk;exact⟨k,q,(hd k).2 (.inr ⟨x,hx,hk⟩),h1,er h2⟩
  ·obtain⟨p,hp,hfp,rfl⟩:=hmk;obtain⟨k,hk⟩:=mG (p:=λq:aD=>decide (f∈q.outs)) hp (BY hfp);obtain⟨q,h1,h2⟩:=gM hk;exact⟨k,q,(hd k).2 (.inl ⟨f,hf,hk⟩),h1,g.short.jW f _ _ ⟨q,ag h1,er h2,rfl⟩ ⟨p,hp,hfp,rfl⟩⟩
 ·rintro⟨k,q,hk,hq,rfl⟩;rcases (hd k).1 hk with⟨f,hf,h1⟩ | ⟨n,hn,h1⟩
  ·obtain⟨q',h2,h3⟩:=gM h1;rw[hq]at h2;cases h2;exact .inr ⟨f,hf,q,ag hq,er h3,rfl⟩
  ·obtain⟨q',h2,h3⟩:=gM h1;rw[hq]at h2;cases h2;rw[er h3];exact .inl hn
theorem Sy{rs:List aD}{es:List (V × V)}(g:Good rs)(h:NM rs es){i k:Nat}(hw:AxS.Way (iZ rs false) i k):∀{p q:aD},rs[i]?=some p->rs[k]?=some q->∃n,EP es q.name (n+1) p.name:=by
 induction hw with
 |one hm=>
  intro p q hp hq;exact⟨0,.succ ((Dh g h hp _).2 ⟨_,q,hm,hq,rfl⟩) .zero⟩
 | @cons i j k hm _ ih=>
  intro p q hp hq
  have hj:∃s,rs[j]?=some s:=by
   unfold iZ at hm;rw[hp]at hm;unfold wL at hm;simp only[fl,ak,fh,af]at hm;rcases hm with⟨f,-,h1⟩ | ⟨-,n,-,h1⟩
   ·obtain⟨s,h2,-⟩:=gM h1;exact⟨s,h2⟩
   ·obtain⟨s,h2,-⟩:=gM h1;exact⟨s,h2⟩
  obtain⟨s,hs⟩:=hj;obtain⟨n,hr⟩:=ih hs hq;exact⟨n+1,.succ ((Dh g h hp _).2 ⟨j,s,hm,hs,rfl⟩) hr⟩
theorem P_{es:List (V × V)}{f x:List Nat}(h:EP es f 0 x):x=f:=by cases h;rfl
theorem L6{rs:List aD}{es:List (V × V)}(g:Good rs)(h:NM rs es){k:Nat}{q:aD}(hq:rs[k]?=some q):∀(n i:Nat)(p:aD),rs[i]?=some p->EP es q.name (n+1) p.name->AxS.Way (iZ rs false) i k
 |n,i,p,hp,.succ (nx:=nx) hx hr=>by
  obtain⟨j,s,hm,hs,rfl⟩:=(Dh g h hp _).1 hx;cases n with
  |zero=>
   have e:s.name=q.name:=P_ hr;have:=g.short.nodup j k s q hs hq e;subst this;exact .one hm
  |succ n=>exact .cons hm (L6 g h hq n j s hs hr)
theorem Ij{rs:List aD}{es:List (V × V)}(g:Good rs)(h:NM rs es):Ring rs ↔ ∃r∈rs,jD (d_ es es.length [r.name]) (cC es r.name)≠none:=by
 constructor
 ·rintro⟨i,hi,hw⟩;have hr:rs[i]?=some rs[i]:=AT hi;obtain⟨n,hn⟩:=Sy g h hw hr hr;exact⟨_,ag hr,(Jo h _).2 ⟨n,hn⟩⟩
 ·rintro⟨r,hr,hb⟩;obtain⟨i,hi⟩:=gr.1 hr;obtain⟨n,hn⟩:=(Jo h _).1 hb;exact⟨i,(AI.1 hi).1,L6 g h hi n i r hi hn⟩
theorem OA{rs:List aD}{es:List (V × V)}(h:NM rs es)(hl:rs.length<=1000)(g:Bool)(f:bF):oF [.imp g es,.str f]=some (oP es f):=by
 show (match oO es,h_ es,Nat.ble es.length 1000000 with
  |true,true,true=>some (oP es f)
  |_,_,_=>none)=_
 rw[h.ok,h.nd,jz (by rw[h.len];omega)]
theorem Ek(es:List (V × V))(f:bF):(jD (d_ es es.length [f]) (cC es f)=none/\oP es f=.aG)\/(jD (d_ es es.length [f]) (cC es f)≠none/\∃l full,oP es f=.bV false ((f::l).map λs=>[ab s]) full):=by
 unfold oP;dsimp only;cases jD (d_ es es.length [f]) (cC es f) with
 |none=>exact .inl ⟨rfl,rfl⟩
 |some b=>exact .inr ⟨by simp,_,_,rfl⟩
theorem Xh(h:bG E){rs:List aD}{es:List (V × V)}(hn:NM rs es)(hl:rs.length<=1000)(g:Bool)(f:bF):aB E 159 [.imp g es,.str f] Z K=K (oP es f) Z:=by
 have h5:cQ [] E.ty false (oP es f)=some (oP es f):=by
  rcases Ek es f with⟨-,e⟩ | ⟨-,l,full,e⟩
  ·rw[e];rfl
  ·rw[e];exact E5 rfl rfl
 have hi:ge (.imp g es)=true:=rfl;exact qR (args':=[.imp g es,.str f]) h.abC h.Y3 (by simp only[aW,dM,bZ hi (bJ hi)]) (OA hn hl g f) h5
theorem adq(h:bG E){rs:List aD}{es:List (V × V)}{g:Bool}(hg:Good rs)(hn:NM rs es){Y:Sg}{w:V}(ow:aY aP 9 Y w (rs.map aD.name))(F:FT)(g5:F.get 5=.imp g es)(g6:F.get 6=w) :
  R E (η [1,1,1,1,1] (aA jp).code) [] ⟨48,F⟩ Y (nV E (aA jp).results (λv σ1=>match cQ σ1 E.ty false v with
   |some v=>(v=.aG/\¬ Ring rs)\/∃x l,kQ aP v (x::l)/\Ring rs
   |none=>False)):=by
 have h40:=hg.len;have hll:(rs.map aD.name).length<=40:=by rw[bw];omega
 obtain⟨τ3,ns,hS,hperm,ow3,-,-⟩:=FM ow (by omega) (λx hx=>by
  obtain⟨r,hr,rfl⟩:=cv.1 hx;have:=hg.short.names r hr;omega)
 have ks:=dX (λK=>show aB E 79 [w] Y K=K (.fR []) τ3 by rw[mO h.Re,hS];rfl);have hnl:ns.length<=40:=by rw[hperm.length_eq];omega
 have lw:=lV h.bB rfl ow3.ls;simp only[aA,jp,KP,↓reduceIte,δ,ε,η,g6,ks,lw];refine aV (λi F Y=>Y=τ3/\F.get 5=.imp g es/\F.get 35=w/\F.get 36=.int .i64 (ns.length:Int)/\F.get 37=.int .i64 (i:Int)/\∀(j:Nat)(x:bF),j<i->ns[j]?=some x->jD (d_ es es.length [x]) (cC es x)=none) ns.length ?_ ?_ ns.length 0 _ _ (by omega) ⟨rfl,(fZ (by simp+decide only[GS,g5,aj]) (λj x hj=>by omega))⟩
 ·rintro i F Y hi ⟨rfl,g5,g35,g36,g37,hp⟩ next
  obtain⟨x,hx⟩:∃y,ns[i]?=some y:=⟨_,AT hi⟩;obtain⟨p,r,e4,e5,-,e6,-⟩:=Eo (Z:=Y) h.bB rfl h.dJ rfl ow3.ls hx;have e6:=e6 rfl (by decide);rw[show r=[.str x] from e5]at e6;have e6:loadAt E Y 9 p=some (.str x):=e6;have hlt:=dR hi;have hadd:=bW i (by omega);have kb:=λ(Z:Sg)=>dX (λK=>Xh (Z:=Z) (K:=K) h hn (by omega) g x);have hxm:x∈rs.map aD.name:=hperm.mem_iff.1 (ag hx);obtain⟨q,hq,hqx⟩:=cv.1 hxm;rw[aF];rcases Ek es x with⟨hb,e⟩ | ⟨hb,l,full,e⟩
  ·simp only[KP,↓reduceIte,δ,ε,g5,g35,g36,g37,hlt,e4,e6,kb,e,D4 h,hadd];refine next _ _ ⟨rfl,(fZ (by simp+decide only[GS,g5,g35,g36,aj]) (λj y hj hy=>?_))⟩
   rcases cr j i with gg | gg
   ·exact hp j y gg hy
   ·obtain rfl:j=i:=by omega
    rw[hx]at hy;cases hy;exact hb
  ·have hsn:∀Z,cQ Z E.ty false (.bV false ((x::l).map λs=>[ab s]) full)=some (.bV false ((x::l).map λs=>[ab s]) full):=λZ=>E5 rfl rfl;simp only[KP,↓reduceIte,δ,ε,reduceCtorEq,g5,g35,g36,g37,hlt,e4,e6,kb,e,DZ h,hsn];exact .inr ⟨x,l,.inr ⟨_,full,rfl,A5 _⟩,(Ij hg hn).2 ⟨q,hq,by rw[hqx];exact hb⟩⟩
 ·rintro F Y ⟨rfl,g5,g35,g36,g37,hp⟩;have hlt:=dW (bt ns.length);rw[aF];simp only[KP,↓reduceIte,ε,g36,g37,hlt];refine .inl ⟨rfl,λhr=>?_⟩;obtain⟨r,hr,hb⟩:=(Ij hg hn).1 hr;obtain⟨j,hj⟩:=gr.1 (hperm.mem_iff.2 (cv.2 ⟨r,hr,rfl⟩));exact hb (hp j r.name (AI.1 hj).1 hj)
theorem R1(h:bG E){a:V}{rs:List aD}(ha:LS dU 46 Z a rs)(hs:∀x∈rs,Small x)(hp:gZ rs=0):aB E 120 [a] Z λv σ'=>σ'=Z/\((v=.aG/\¬ Ring rs)\/∃x l,kQ aP v (x::l)/\Ring rs):=by
 obtain⟨a',ea,ia⟩:=fI h ha;have hg:=tP hp;have h40:=hg.len;rw[aH h.abQ h.Zg h.acO h.aaP (args':=[a']) (by simp only[aW,ea]),aU (by kernel_rfl)];have la:=dH h ia;have key:=λes g hn Y w ow F g5 g6=>adq (E:=E) (rs:=rs) (es:=es) (g:=g) (Y:=Y) (w:=w) h hg hn ow F g5 g6;rw[show (aA jp).code=.seq (η [0] (aA jp).code) (.seq (η [1,0] (aA jp).code) (.seq (η [1,1,0] (aA jp).code) (.seq (η [1,1,1,0] (aA jp).code) (.seq (η [1,1,1,1,0] (aA jp).code) (η [1,1,1,1,1] (aA jp).code))))) from rfl];generalize η [1,1,1,1,1] (aA jp).code=C at key ⊢;simp only[aA,jp,KP,↓reduceIte,ε,reduceCtorEq,η];refine aK (MW h (ia.ls _ 46) hs (by omega)) ?_;rintro v σ' ⟨rfl,nm,rfl⟩;rw[hp];simp only[KP,↓reduceIte,δ,ε,reduceCtorEq];refine aK (UM h (ia.ls _ 46) hs hg.short (by omega)) ?_;rintro v σ' ⟨rfl,es,rfl,hv⟩;have hn:=aaa hg.short hv;simp only[KP,↓reduceIte,ε,reduceCtorEq,la];refine aV (λi F Y=>F.get 5=.imp false es/\F.get 21=a'/\F.get 22=.int .i64 (rs.length:Int)/\F.get 23=.int .i64 (i:Int)/\∃w,F.get 6=w/\aY aP 9 Y w ((rs.take i).map aD.name)) rs.length ?_ ?_ rs.length 0 _ _ (by omega) (fZ (by simp+decide only[GS,aj]) ⟨.aG,(by simp+decide only[GS]),.inl ⟨rfl,rfl⟩⟩)
 ·rintro i F Y hi ⟨g5,g21,g22,g23,w,g6,ow⟩ next
  obtain⟨r,hr⟩:∃y,rs[i]?=some y:=⟨_,AT hi⟩;obtain⟨g,p1,p2,p3,p4,e1,i1,i2,i3,i4⟩:=fQ h ia hr;have o1:=aQ i1.bE;have o2:=aQ i2.bE;have o3:=aQ i3.bE;have o4:=aQ i4.bE;have hlt:=dR hi;have hadd:=bW i (by omega);have s1:(Y++[ζ 46 [.str r.name,p1,p2,p3,p4] true])[Y.length]?=some (ζ 46 [.str r.name,p1,p2,p3,p4] true):=aL;have ow1:=ow.app [ζ 46 [.str r.name,p1,p2,p3,p4] true];rw[aF];simp only[KP,ι,Ξ,↓reduceIte,δ,ε,ω,μ,ap,reduceCtorEq,h.dJ,h.bB,h.bO,g6,g21,g22,g23,hlt,e1,o1,o2,o3,o4,aL,bP];generalize Y++[ζ 46 [.str r.name,p1,p2,p3,p4] true]=τ1 at *;generalize Y.length=y at *;obtain⟨w',τ',hap,ow',-,-,-⟩:=kB (ats:=#[24,24]) (m:=[r.name]) (new:=[[.str r.name]]) h.bB rfl h.dJ rfl (by decide) (kF h) rfl (ow1.app [.cells 9 [.str r.name] true]) (mI rfl) (.one rfl) (dO (b:=1000) (by decide) (by rw[bw,bl];simp only[IT,aq];omega));simp only[KP,↓reduceIte,δ,ε,g23,lM,hap,hadd];refine next _ _ (fZ (by simp+decide only[GS,g5,g21,g22,aj]) ⟨w',(by simp+decide only[GS]),?_⟩)
  rw[dz,hr,gj];exact ow'
 ·rintro F Y ⟨g5,g21,g22,g23,w,g6,ow⟩;rw[ah (OF _)]at ow;have hlt:=dW (bt rs.length);rw[aF];simp only[KP,↓reduceIte,ε,g22,g23,hlt];exact key es false hn _ w ow _ (by simp+decide only[GS,g5]) (by simp+decide only[GS,g6])
theorem X9(h:bG E){a:V}{rs:List aD}(ha:LS dU 46 Z a rs)(hs:∀x∈rs,Small x)(hl:rs.length<=4294967296):aB E 68 [a] Z λv σ'=>σ'=Z/\∃e nm,v=.fR [.int .i64 e,.str nm]/\JI rs e:=by
 obtain⟨a',ea,ia⟩:=fI h ha;rw[aH h.hs68 h.sp68 h.fn68 h.md68 (args':=[a']) (by simp only[aW,ea]),aU (by kernel_rfl)];have d6:=h.adi;simp only[aA,Tryz.f68,η,ay]at d6;simp only[aA,Tryz.f68,KP,↓reduceIte,ε,reduceCtorEq,lZ];refine aK (MW h (ia.ls _ 46) hs hl) ?_;rintro v σ' ⟨rfl,nm,rfl⟩;by_cases hp:gZ rs=0
 case neg=>
  have q:=AS hp;simp only[KP,↓reduceIte,δ,ε,q];exact⟨gZ rs,nm,rfl,.inl ⟨hp,rfl⟩⟩
 have q:=BY hp;simp only[KP,↓reduceIte,δ,ε,reduceCtorEq,q];refine aK (R1 h (ia.ls _ 46) hs hp) ?_;rintro v σ' ⟨rfl,hv⟩;rcases hv with⟨rfl,hr⟩ | ⟨x,l,iv,hr⟩
 ·simp only[KP,↓reduceIte,δ,ε,lZ,D4 h];exact⟨0,[],rfl,.inr ⟨hp,.inr ⟨hr,rfl⟩⟩⟩
 ·obtain⟨g,e1⟩:=g_ h iv.is (i:=0) (x:=x) rfl;have e1:indexAddr E 24 v (.int .i64 0)=some (.cR g [.str x]):=e1
  have en:mM E 24 true v .aG=some false:=by
   rcases iv with⟨-,e⟩ | ⟨rs',full,rfl,-⟩
   ·cases e
   ·exact DZ h
  simp only[KP,ι,↓reduceIte,δ,ε,h.dJ,en,e1,aX d6,bS];exact⟨3,x,rfl,.inr ⟨hp,.inl ⟨hr,rfl⟩⟩⟩
end
end
structure OrE (E:Env):Prop where
 hs23:E.hspec 23=none
 SQ:E.spec 23=none
 fn23:E.fn 23=some (aA Tryz.f23)
 md23:E.mode 23=.eW
 hs81:E.hspec 81=none
 sp81:E.spec 81=none
 fn81:E.fn 81=some (aA Tryz.f81)
 md81:E.mode 81=.eW
 hs83:E.hspec 83=none
 sp83:E.spec 83=none
 fn83:E.fn 83=some (aA Tryz.f83)
 md83:E.mode 83=.eW
 hs25:E.hspec 25=none
 SP:E.spec 25=none
 fn25:E.fn 25=some (aA Tryz.f25)
 md25:E.mode 25=.eW
 hs85:E.hspec 85=none
 sp85:E.spec 85=none
 fn85:E.fn 85=some (aA Tryz.f85)
 md85:E.mode 85=.eW
 d23_15:aN E (η [1,1,1,1,1,1,1,0,2,2,1,2,1,0] (aA Tryz.f23).code)=true
section
section
variable {E:Env}{Z:Sg}{K:V->Sg->Prop}
theorem WL{Y:Sg}{w:V}{l:List bF}{k:Nat}{es:List (V × V)}(hb:Y[k]?=some (.map es))(ow:aY aP 9 Y w l):aO w≠some k:=by
 rcases ow with⟨rfl,-⟩ | ⟨b,rs,ex,rfl,hc,-⟩
 ·intro e;cases e
 ·intro e;cases e;rw[hb]at hc;cases hc
structure InOrder (rs:List aD) (o:List bF):Prop where
 len:o.length=rs.length
 nodup:o.Nodup
 mem:∀x∈o,x∈rs.map aD.name
 behind:∀(i k:Nat)(p q:aD),rs[i]?=some p->rs[k]?=some q->iZ rs false i k=true->∀(j:Nat),o[j]?=some p.name->q.name∈o.take j
structure Ar (E:Env) (Y:Sg) (es:List (V × V)) (p:bF->Bool):Prop where
 b0:Y[0]?=some (.cells 107 [.imp false es] true)
 b2:Y[2]?=some (.cells 109 [.mp 1] true)
 b1:∃e1,Y[1]?=some (.map e1)/\SB E e1 p
theorem Ar.app{Y:Sg}{es:List (V × V)}{p:bF->Bool}(h:Ar E Y es p)(y:O):Ar E (Y++[y]) es p:=by
 obtain⟨e1,h1,h2⟩:=h.b1;exact⟨aI h.b0,aI h.b2,e1,aI h1,h2⟩
theorem Ar.sp{Y τ':Sg}{es:List (V × V)}{p:bF->Bool}{w:V}{l:List bF}(h:Ar E Y es p)(ow:aY aP 9 Y w l)(sp:Sp Y τ' w):Ar E τ' es p:=by
 obtain⟨e1,h1,h2⟩:=h.b1;exact⟨sp _ _ h.b0 (lU h.b0 (by decide) ow),sp _ _ h.b2 (lU h.b2 (by decide) ow),e1,sp _ _ h1 (WL h1 ow),h2⟩
theorem Ar.put{Y:Sg}{es e1:List (V × V)}{p q:bF->Bool}(h:Ar E Y es p)(hs:SB E e1 q):Ar E (Y.set 1 (.map e1)) es q:=by
 obtain⟨e0,h1,-⟩:=h.b1;exact⟨by rw[aa (by decide)];exact h.b0,by rw[aa (by decide)];exact h.b2,e1,by rw[br (AI.1 h1).1],hs⟩
theorem Ma{Z:Sg}{k t:Nat}{cs cs':List V}{ex:Bool}(hb:Z[k]?=some (.cells t cs ex))(hm:aW (λv=>match bA Z E.ty true 11 v with
   |some v=>if cI true v then some v else Ax.no "snap: borrowed"
   |none=>none) cs=some cs'):aR.one Z E.ty true (.ref k 0)=some (.cR true cs'):=by
 have e:bA Z E.ty true 12 (.ref k 0)=some (.cR true cs'):=by
  rw[bA];simp only[hb,ez]
  exact b8 (λo=>match o with
   |some l=>some (V.cR true l)
   |none=>none) hm
 unfold aR.one;rw[show dN=12 from rfl,e];rfl
end
structure mL (E:Env):Prop where
 xR:E.ty 98=some { kd:=.map 51 84,size:=1,bytes:=8,zero:=.cA }
 pO:E.ty 100=some { kd:=.jL [(0,96),(1,97),(2,84),(3,98),(4,98)],size:=5,bytes:=40,zero:=.agg [.cA,.cA,.fV,.cA,.cA] }
 EB:E.ty 27=some { kd:=.ptr 100,size:=1,bytes:=8,zero:=.fV }
 VN:E.ty 96=some { kd:=.map 9 46,size:=1,bytes:=8,zero:=.cA }
 yU:E.ty 147=some { kd:=.jL [(0,98),(1,51),(3,51)],size:=5,bytes:=56,zero:=.agg [.cA,.bool false,.str [],.bool false,.str []] }
 Lt:E.ty 148=some { kd:=.sl 147,size:=1,bytes:=24,zero:=.aG }
 hs69:E.hspec 69=none
 sp69:E.spec 69=none
 fn69:E.fn 69=some (aA oX)
 md69:E.mode 69=.eW
 abP:E.hspec 121=none
 Zf:E.spec 121=none
 acN:E.fn 121=some (aA Tryz.f121)
 aaO:E.mode 121=.shared
 hs13:E.hspec 13=none
 PE:E.spec 13=none
 fn13:E.fn 13=some (aA cf)
 md13:E.mode 13=.eW
 hs72:E.hspec 72=none
 sp72:E.spec 72=none
 fn72:E.fn 72=some (aA Δ)
 md72:E.mode 72=.shared
 hs71:E.hspec 71=none
 sp71:E.spec 71=none
 fn71:E.fn 71=some (aA Tryz.f71)
 md71:E.mode 71=.eW
 hs73:E.hspec 73=none
 sp73:E.spec 73=none
 fn73:E.fn 73=some (aA Tryz.f73)
 md73:E.mode 73=.eW
 hs53:E.hspec 53=none
 sp53:E.spec 53=none
 fn53:E.fn 53=some (aA Tryz.f53)
 md53:E.mode 53=.eW
 hs78:E.hspec 78=none
 sp78:E.spec 78=none
 fn78:E.fn 78=some (aA Tryz.f78)
 md78:E.mode 78=.eW
 Yq:fP E (Φ (η [1,0] (aA oX).code))=.no
 Z7:cK E .no (Φ (η [1,0] (aA oX).code))=some [⟨2,4,true,false⟩,  ⟨2,7,true,false⟩,  ⟨2,10,true,false⟩,  ⟨5,7,true,false⟩,  ⟨5,10,true,false⟩,  ⟨8,10,true,false⟩]
 Yp:fP E (Φ (η [1,1,0,1,2,2,1,1,0,2,1] (aA oX).code))=.no
 Z6:cK E .no (Φ (η [1,1,0,1,2,2,1,1,0,2,1] (aA oX).code))=some [⟨1,12,false,true⟩,  ⟨1,19,false,true⟩,  ⟨4,12,false,true⟩,  ⟨4,19,false,true⟩,  ⟨4,22,false,true⟩,  ⟨12,14,true,false⟩,  ⟨12,18,true,false⟩]
 adp:aN E (η [1,1,1,0,1,2,2,1,1,0,2,1,0] (aA cf).code)=true
 Yr:fP E (Φ (η [1,1,1,0,1,2,2,1,1,0,2,1,1,0] (aA cf).code))=.no
 Z8:cK E .no (Φ (η [1,1,1,0,1,2,2,1,1,0,2,1,1,0] (aA cf).code))=some [⟨3,7,false,true⟩]
 XG:aN E (η [1,1,1,0,1,2,2,1,1,0,2,1,1,1,1,1,2,2,1,1,0,2,1,0] (aA cf).code)=true
 XF:aN E (η [1,1,1,0,1,2,2,1,1,0,2,1,1,1,1,1,2,2,1,1,0,2,1,1] (aA cf).code)=true
 Yo:fP E (Φ (η [1,0] (aA Δ).code))=.no
 Z5:cK E .no (Φ (η [1,0] (aA Δ).code))=some [⟨3,6,false,true⟩]
 adg:aN E (η [1,1,0] (aA Δ).code)=true
 Yn:fP E (Φ (η [1,1,1,2,2,1,1,0,2,1,0,1,0] (aA Δ).code))=.no
 Z4:cK E .no (Φ (η [1,1,1,2,2,1,1,0,2,1,0,1,0] (aA Δ).code))=some [⟨1,4,false,true⟩,  ⟨3,4,false,true⟩]
 Ym:fP E (Φ (η [1,1,1,2,2,1,1,0,2,1,1] (aA Δ).code))=.no
 Z3:cK E .no (Φ (η [1,1,1,2,2,1,1,0,2,1,1] (aA Δ).code))=some [⟨1,7,false,true⟩,  ⟨3,7,false,true⟩,  ⟨4,7,false,true⟩]
 z78_17:fP E (Φ (η [1,1,1,1,0,1,2,2,1,1,0,2,1,1,1,1] (aA Tryz.f78).code))=.no
 p78_17:cK E .no (Φ (η [1,1,1,1,0,1,2,2,1,1,0,2,1,1,1,1] (aA Tryz.f78).code))=some [⟨2,4,false,true⟩]
section
variable {E:Env}{Z:Sg}{K:V->Sg->Prop}
theorem aB.up{f:Nat}{args:List V}{K:V->Sg->Prop}(h:aB E f args Z K):∃n v σ',K v σ'/\∀m,n<=m->iH E (ev E m) f args Z=some (v,σ'):=by
 obtain⟨n,v,σ',hc,hk⟩:=h;exact⟨n,v,σ',hk,λm hm=>tX (nB E hm) hc⟩
theorem Of(h:bG E):mM E 44 true .aG .aG=some true:=by unfold mM;rw[h.gA]
theorem Oe(h:bG E){g:Bool}{rs:List (List V)}{f:Bool}:mM E 44 true (.bV g rs f) .aG=some false:=by unfold mM;rw[h.gA]
theorem OM(h:bG E)(h':mL E){a:V}{l:List am}(ia:IS fB a l)(hl:l.length<=1000):aB E 121 [a] Z λv σ'=>aY fB 82 σ' v l/\Kp Z σ'/\∀b,aO v=some b->Z.length<=b:=by
 rw[cJ h'.abP h'.Zf h'.acN h'.aaO,aU (by kernel_rfl)];rcases ia with⟨rfl,rfl⟩ | ⟨g,rs,full,rfl,ha⟩
 ·simp only[aA,Tryz.f121,KP,↓reduceIte,ε,reduceCtorEq,Of h];exact⟨.inl ⟨rfl,rfl⟩,λ_ _ h=>h,λb hb=>by cases hb⟩
 ·obtain⟨rs',e,ha'⟩:=sA (L:=fB) (x:=.bV g rs full) (l:=l) (.inr ⟨g,rs,full,rfl,ha⟩) (Z++[ζ 82 [] true]);obtain⟨w',τ',h1,h2,h3,h4,h5⟩:=kB (ats:=#[44,44]) (Z:=Z++[ζ 82 [] true]) (w:=.sl Z.length 0 0 none) (l:=[]) (L:=fB) h.gA rfl h.dF rfl (by decide) (BE h) rfl (.inr ⟨Z.length,[],true,rfl,aL,.nil⟩) e ha' (dO (b:=1000) (by decide) (by simp only[aq];omega));rw[cz]at h2;simp only[aA,Tryz.f121,KP,↓reduceIte,δ,ε,ω,reduceCtorEq,h.gA,h.dF,Oe h,h1,hZ,gG,gz];refine⟨h2,λc o hc=>h3 _ _ (aI hc) λe=>?_,λb hb=>?_⟩
  ·cases e;exact absurd (AI.1 hc).1 (bt _)
  ·rcases h5 b hb with g | g
   ·cases g;exact OF _
   ·simp only[By,IT,aq]at g;omega
theorem o_{α:Type}{L:Lay α}{t:Nat}{Y:Sg}{w:V}{l:List α}(ow:aY L t Y w l):w.aZ=true/\w.cells=[w]:=by
 rcases ow with⟨rfl,-⟩ | ⟨b,rs,ex,rfl,-⟩ <;> exact⟨rfl,rfl⟩
theorem wJ{α:Type}{L:Lay α}{t:Nat}{Y:Sg}{w:V}{l:List α}{y:O}(ow:aY L t Y w l)(h:∀b,aO w=some b->2<=b):aY L t (Y.set 0 y) w l:=ow.keep λc o hc ho=>by
 rw[aa (by have:=h c hc;omega)];exact ho
theorem vC{α:Type}{L:Lay α}{t:Nat}{Y:Sg}{w:V}{l:List α}{b:Nat}(ow:aY L t Y w l)(h:aO w=some b):b<Y.length:=by
 rcases ow with⟨rfl,-⟩ | ⟨b',rs,ex,rfl,hb,-⟩
 ·cases h
 ·cases h;exact(AI.1 hb).1
theorem G4{Y τ':Sg}(h:Kp Y τ'):Y.length<=τ'.length:=by
 refine oz λhlt=>?_;obtain⟨o,ho⟩:∃o,Y[τ'.length]?=some o:=⟨_,AT hlt⟩;exact absurd (AI.1 (h _ _ ho)).1 (bt _)
theorem ads(h:bG E)(h':mL E){x:aD}{a b c d:V}(ia:IS aP a x.ins)(ib:IS aP b x.outs)(ic:IS aP c x.after)(id:IS fB d x.steps)(hs:Small x)(F:FT)(g1:F.get 1=.ref 0 0){st:List iT}{Q:Ax.X->Fr->Sg->Prop}
  (hk:∀F' Y w1 w2 w3 w4,F'.get 1=.ref 0 0->F'.get 2=F.get 2->Y[0]?=some (ζ 46 [.str x.name,w1,w2,w3,w4] true)->Y[1]?=some (ζ 46 [.str [],.aG,.aG,.aG,.aG] true)->aY aP 9 Y w1 x.ins->aY aP 9 Y w2 x.outs->aY aP 9 Y w3 x.after->aY fB 82 Y w4 x.steps->(∀b,aO w4=some b->2<=b/\aO w1≠some b/\aO w2≠some b/\aO w3≠some b)->M E st .normal ⟨52,F'⟩ Y Q) :
  R E (.region 1 (Φ (η [1,0] (aA oX).code)) true) st ⟨52,F⟩ [ζ 46 [.str x.name,a,b,c,d] true,ζ 46 [.str [],.aG,.aG,.aG,.aG] true] Q:=by
 have l1:=hs.ins;have l2:=hs.outs;have l3:=hs.after;have l4:=hs.steps;obtain⟨n1,w1,τ1,⟨ow1,kp1,fr1⟩,c1⟩:=aB.up (tZ (Z:=[ζ 46 [.str x.name,a,b,c,d] true,ζ 46 [.str [],.aG,.aG,.aG,.aG] true]) h ia (by omega));obtain⟨n2,w2,τ2,⟨ow2,kp2,fr2⟩,c2⟩:=aB.up (tZ (Z:=τ1) h ib (by omega));obtain⟨n3,w3,τ3,⟨ow3,kp3,fr3⟩,c3⟩:=aB.up (tZ (Z:=τ2) h ic (by omega));obtain⟨n4,w4,τ4,⟨ow4,kp4,fr4⟩,c4⟩:=aB.up (OM (Z:=τ3) h h' id (by omega));have c1:=c1 (n1+n2+n3+n4) (by omega);have c2:=c2 (n1+n2+n3+n4) (by omega);have c3:=c3 (n1+n2+n3+n4) (by omega);have c4:=c4 (n1+n2+n3+n4) (by omega);generalize n1+n2+n3+n4=n at c1 c2 c3 c4;have k0:∀Y:Sg,Kp [ζ 46 [.str x.name,a,b,c,d] true,ζ 46 [.str [],.aG,.aG,.aG,.aG] true] Y->Y[0]?=some (ζ 46 [.str x.name,a,b,c,d] true)/\Y[1]?=some (ζ 46 [.str [],.aG,.aG,.aG,.aG] true):=λY hk=>⟨hk 0 _ rfl,hk 1 _ rfl⟩;have q2:Kp [ζ 46 [.str x.name,a,b,c,d] true,ζ 46 [.str [],.aG,.aG,.aG,.aG] true] τ2:=λc o e=>kp2 c o (kp1 c o e);have q3:Kp [ζ 46 [.str x.name,a,b,c,d] true,ζ 46 [.str [],.aG,.aG,.aG,.aG] true] τ3:=λc o e=>kp3 c o (q2 c o e);have q4:Kp [ζ 46 [.str x.name,a,b,c,d] true,ζ 46 [.str [],.aG,.aG,.aG,.aG] true] τ4:=λc o e=>kp4 c o (q3 c o e);obtain⟨b1,z1⟩:=k0 τ1 kp1;obtain⟨b2,z2⟩:=k0 τ2 q2;obtain⟨b3,z3⟩:=k0 τ3 q3;obtain⟨b4,z4⟩:=k0 τ4 q4;have hlt4:=(AI.1 b4).1;have s1:∀y,(τ4.set 0 y)[0]?=some y:=λy=>br hlt4;obtain⟨o1,t1⟩:=o_ ow1;obtain⟨o2,t2⟩:=o_ ow2;obtain⟨o3,t3⟩:=o_ ow3;obtain⟨o4,t4⟩:=o_ ow4;have v1:=cL 10 ia;have v2:=cL 10 ib;have v3:=cL 10 ic;have v4:=pJ 9 id
 have key:∃F',cP E (ev E n) (Φ (η [1,0] (aA oX).code)) ⟨52,F⟩ [ζ 46 [.str x.name,a,b,c,d] true,ζ 46 [.str [],.aG,.aG,.aG,.aG] true]=some (⟨52,F'⟩,τ4.set 0 (ζ 46 [.str x.name,w1,w2,w3,w4] true))/\F'.get 1=.ref 0 0/\F'.get 2=F.get 2:=by
  unfold cP;rw[h'.Yq,h'.Z7];simp only[aA,oX,KP,ι,Ξ,↓reduceIte,δ,ε,ω,μ,reduceCtorEq,h.bB,h.gA,h.bO,Φ,η,iQ,bN,cE,lD,nz,pu,iM,ly,g1,c1,c2,c3,c4,b1,b2,b3,b4,s1,o1,o2,o3,o4,t1,t2,t3,t4,v2,v3,v4,List.set_set];exact⟨_,rfl,(by simp+decide only[GS,g1,aj])⟩
 obtain⟨F',hD,f1,f2⟩:=key;have n1:=G4 kp1;have n2:=G4 kp2;have n3:=G4 kp3;have n0:([ζ 46 [.str x.name,a,b,c,d] true,ζ 46 [.str [],.aG,.aG,.aG,.aG] true]:Sg).length=2:=rfl;rw[n0]at n1 fr1;have k2:∀b,aO w2=some b->2<=b:=λb hb=>by have:=fr2 b hb;omega
 have k3:∀b,aO w3=some b->2<=b:=λb hb=>by have:=fr3 b hb;omega
 have k4:∀b,aO w4=some b->2<=b:=λb hb=>by have:=fr4 b hb;omega
 refine Eq.mpr (iW hD) (hk F' _ w1 w2 w3 w4 f1 f2 (s1 _) (by rw[aa (by decide)];exact z4) (wJ (ow1.keep λc o _ hc=>kp4 c o (kp3 c o (kp2 c o hc))) fr1) (wJ (ow2.keep λc o _ hc=>kp4 c o (kp3 c o hc)) k2) (wJ (ow3.keep λc o _ hc=>kp4 c o hc) k3) (wJ ow4 k4) λb hb=>⟨k4 b hb,λe=>?_,λe=>?_,λe=>?_⟩)
 ·have:=fr4 b hb;have:=vC ow1 e;omega
 ·have:=fr4 b hb;have:=vC ow2 e;omega
 ·have:=fr4 b hb;have:=vC ow3 e;omega
theorem Bb{k:Nat}(hk:k<5):∀{R:List (List V)}{i:Nat}{r:List V},(∀x∈R,x.length=5)->R[i]?=some r->R.flatten[i*5+k]?=r[k]?
 | [],_,_,_,h=>by cases h
 |x::R,0,r,hx,h=>by
  cases h;rw[dn,gz,dc,au (by rw[hx _ (No ..)];exact hk)]
 |x::R,i+1,r,hx,h=>by
  have hl:=hx _ (No ..);rw[dn,bg (by omega),show (i+1)*5+k-x.length=i*5+k by omega];exact Bb hk (λy hy=>hx y (ae _ hy)) h
theorem FZ{k:Nat}{v:V}(hk:k<5):∀{R:List (List V)}{i:Nat}{r:List V},(∀x∈R,x.length=5)->R[i]?=some r->ac R.flatten (i*5+k) [v]=(R.set i (r.set k v)).flatten
 | [],_,_,_,h=>by cases h
 |x::R,0,r,hx,h=>by
  cases h;have hl:=hx _ (No ..);rw[kj,dn,dn,gz,dc];unfold ac;rw[je (by omega),List.drop_append_of_le_length (by rw[dj];omega),List.set_eq_take_append_cons_drop,az (by omega)];simp
 |x::R,i+1,r,hx,h=>by
  have hl:=hx _ (No ..);have ih:=FZ (v:=v) hk (λy hy=>hx y (ae _ hy)) h;rw[nt,dn,dn,<- ih];unfold ac;rw[List.take_append,ah (by omega),show (i+1)*5+k-x.length=i*5+k by omega,List.drop_append,ju (by omega),show (i+1)*5+k + [v].length-x.length=i*5+k + [v].length by omega];simp
theorem KD(h:bG E){Y:Sg}{b i k:Nat}{R:List (List V)}{r:List V}{v:V}{ex:Bool}(hb:Y[b]?=some (.cells 82 R.flatten ex))(hx:∀x∈R,x.length=5)(hr:R[i]?=some r)(hk:k<5)(hv:r[k]?=some v):loadAt E Y 24 (.ref b (i*5+k))=some v:=by
 unfold ι;simp only[h.bB,hb,Bb hk hx hr,hv,qo];rfl
theorem Pq(h:bG E){Y:Sg}{b i k:Nat}{R:List (List V)}{r:List V}{v:V}{ex:Bool}(hb:Y[b]?=some (.cells 82 R.flatten ex))(hx:∀x∈R,x.length=5)(hr:R[i]?=some r)(hk:k<5)(hc:v.cells=[v])(ho:v.aZ=true):storeAt E Y 24 (.ref b (i*5+k)) v=some (Y.set b (.cells 82 (R.set i (r.set k v)).flatten ex)):=by
 unfold Ξ
 have hl:i*5+k+1<=R.flatten.length:=by
  have:=Bb hk hx hr;have hrl:=hx r (ag hr);rw[AT (show k<r.length by omega)]at this;have:=(AI.1 this).1;omega
 simp only[h.bB,hb,hc,IT,aq,iy,ki,ho,BY hl,FZ hk hx hr];rfl
theorem Xl(h:bG E){b n i:Nat}(hi:i<n):indexAddr E 44 (.sl b 0 n none) (.int .i64 (i:Int))=some (.ref b (i*5)):=by
 unfold Θ;simp only[h.gA,h.dF,show ¬ ((i:Int)<0) by omega,b9,dx,hi,bf,dc]
theorem PW{R:List (List V)}{i k:Nat}{r:List V}{v:V}(hx:∀x∈R,x.length=5)(hr:R[i]?=some r):∀x∈R.set i (r.set k v),x.length=5:=λx hm=>by
 rcases List.mem_or_eq_of_mem_set hm with hm | rfl
 ·exact hx x hm
 ·rw[dy];exact hx r (ag hr)
theorem adr(h:bG E)(h':mL E){x:aD}{w1 w2 w3 p q:V}{s:am}{b n i:Nat}{R:List (List V)}{ex:Bool}{Y:Sg}(h0:Y[0]?=some (ζ 46 [.str x.name,w1,w2,w3,.sl b 0 n none] true))(hb:Y[b]?=some (.cells 82 R.flatten ex))(hx:∀x∈R,x.length=5)(hr:R[i]?=some ([.str s.out,.int .i64 s.op,p,q,.int .i64 s.n]))(hi:i<n)(ip:IS aP p s.args)(iq:IS aP q s.lits)(l1:s.args.length<=8)(l2:s.lits.length<=3)(hb2:2<=b)
  (F:FT)(g1:F.get 1=.ref 0 0)(g3:F.get 3=.int .i64 (i:Int)){st:List iT}{Q:Ax.X->Fr->Sg->Prop}
  (hk:∀F' τ' wp wq,(∀k,k∈[1,2,22,23]->F'.get k=F.get k)->τ'[b]?=some (.cells 82 (R.set i ([.str s.out,.int .i64 s.op,wp,wq,.int .i64 s.n])).flatten ex)->aY aP 9 τ' wp s.args->aY aP 9 τ' wq s.lits->(∀(c:Nat)(o:O),Y[c]?=some o->c≠b->τ'[c]?=some o)->(∀c,aO wp=some c->Y.length<=c)->(∀c,aO wq=some c->Y.length<=c)->M E st .normal ⟨52,F'⟩ τ' Q) :
  Ax.R E (.region 5 (Φ (η [1,1,0,1,2,2,1,1,0,2,1] (aA oX).code)) true) st ⟨52,F⟩ Y Q:=by
 obtain⟨n1,wp,τ1,⟨ow1,kp1,fr1⟩,c1⟩:=aB.up (tZ (Z:=Y) h ip (by omega));obtain⟨n2,wq,τ2,⟨ow2,kp2,fr2⟩,c2⟩:=aB.up (tZ (Z:=τ1) h iq (by omega));have c1:=c1 (n1+n2) (by omega);have c2:=c2 (n1+n2) (by omega);generalize n1+n2=m at c1 c2;have h01:=kp1 _ _ h0;have h02:=kp2 _ _ h01;have hb1:=kp1 _ _ hb;have hb2':=kp2 _ _ hb1;obtain⟨o1,t1⟩:=o_ ow1;obtain⟨o2,t2⟩:=o_ ow2;have e1:=Xl h hi (b:=b) (n:=n);have f1:=KD h hb hx hr (k:=2) (by decide) rfl;have f2:=KD h hb1 hx hr (k:=3) (by decide) rfl;have f2'':=KD h hb hx hr (k:=3) (by decide) rfl;have s1:=Pq h hb2' hx hr (k:=2) (v:=wp) (by decide) t1 o1;have hbl:=(AI.1 hb2').1;have hR:(R.set i ([.str s.out,.int .i64 s.op,wp,q,.int .i64 s.n]))[i]?=some ([.str s.out,.int .i64 s.op,wp,q,.int .i64 s.n]):=br (AI.1 hr).1;have s2:=Pq h (Y:=τ2.set b (.cells 82 (R.set i ([.str s.out,.int .i64 s.op,wp,q,.int .i64 s.n])).flatten ex)) (v:=wq) (br hbl) (PW (k:=2) (v:=wp) hx hr) hR (k:=3) (by decide) t2 o2;have s1:storeAt E τ2 24 (.ref b (i*5+2)) wp=some (τ2.set b (.cells 82 (R.set i ([.str s.out,.int .i64 s.op,wp,q,.int .i64 s.n])).flatten ex)):=s1
 have s2:storeAt E (τ2.set b (.cells 82 (R.set i ([.str s.out,.int .i64 s.op,wp,q,.int .i64 s.n])).flatten ex)) 24 (.ref b (i*5+3)) wq=some (τ2.set b (.cells 82 (R.set i ([.str s.out,.int .i64 s.op,wp,wq,.int .i64 s.n])).flatten ex)):=by
  rw[s2,List.set_set,List.set_set];rfl
 have lw:loadAt E Y 44 (.ref 0 4)=some (.sl b 0 n none):=by unfold ι;simp only[h.gA,h0];rfl
 have lw1:loadAt E τ1 44 (.ref 0 4)=some (.sl b 0 n none):=by unfold ι;simp only[h.gA,h01];rfl
 have lw2:loadAt E τ2 44 (.ref 0 4)=some (.sl b 0 n none):=by unfold ι;simp only[h.gA,h02];rfl
 have lw3:∀y,loadAt E (τ2.set b y) 44 (.ref 0 4)=some (.sl b 0 n none):=λy=>by
  have h03:(τ2.set b y)[0]?=some (ζ 46 [.str x.name,w1,w2,w3,.sl b 0 n none] true):=by rw[aa (by omega)];exact h02
  unfold ι;simp only[h.gA,h03];rfl
 have vq:=cL 10 iq;have v0:sO 12 (.sl b 0 n none) (.sl b 0 n none)=true:=by unfold sO;simp
 have key:∃F',cP E (ev E m) (Φ (η [1,1,0,1,2,2,1,1,0,2,1] (aA oX).code)) ⟨52,F⟩ Y=some (⟨52,F'⟩,τ2.set b (.cells 82 (R.set i ([.str s.out,.int .i64 s.op,wp,wq,.int .i64 s.n])).flatten ex))/\(∀k,k∈[1,2,22,23]->F'.get k=F.get k):=by
  unfold cP;rw[h'.Yp,h'.Z6];simp only[aA,oX,KP,↓reduceIte,δ,ε,μ,reduceCtorEq,h.bB,h.gA,h.bO,h.dF,Φ,η,iQ,bN,cE,lD,nz,pu,iM,ly,g1,g3,c1,c2,lw,lw1,lw2,lw3,e1,f1,f2,f2'',s1,s2,vq,v0];refine⟨_,rfl,λk hk=>?_⟩;simp only[IN,bz,ek]at hk;rcases hk with rfl | rfl | rfl | rfl <;> simp+decide only[GS]
 obtain⟨F',hD,hF⟩:=key;have hlen1:=G4 kp1
 have hne:∀{w:V},(∀c,aO w=some c->Y.length<=c)->aO w≠some b:=λhfr e=>by
  have:=hfr b e;have:=(AI.1 hb).1;omega
 have fr2':∀c,aO wq=some c->Y.length<=c:=λc hc=>by have:=fr2 c hc;omega
 refine Eq.mpr (iW hD) (hk F' _ wp wq hF (br hbl) (aY.set (ow1.keep λc o _ hc=>kp2 c o hc) (hne fr1)) (aY.set ow2 (hne fr2')) (λc o hc hcb=>?_) fr1 fr2');rw[aa (kg hcb)];exact kp2 _ _ (kp1 _ _ hc)
end
end
end Go.Proofs.YtmbikbgdbbcbmaaGreatDoor
end
