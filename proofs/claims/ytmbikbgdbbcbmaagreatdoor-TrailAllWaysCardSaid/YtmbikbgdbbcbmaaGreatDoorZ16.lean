/- Part 16 of the proof. -/
import Derived.Test.YtmbikbgdbbcbmaaGreatDoorY
import Derived.Test.YtmbikbgdbbcbmaaGreatDoorZ15
import Derived.Test.YtmbikbgdbbcbmaaGreatDoorZ2
import Derived.Deep.Slices
import Derived.Test.YtmbikbgdbbcbmaaGreatDoorZ3
import Derived.Deep.SlicePairs
set_option maxHeartbeats 8000000
set_option linter.unusedVariables false
set_option maxRecDepth 100000
open Nat renaming reduceEqDiff→δ,reduceLT→ε,reduceAdd→μ,reduceLeDiff→ω,reduceMul→ap
open Go.Ax.O renaming cells→ζ
open Go.Ax renaming cutAt→η,loadAt→ι,storeAt→Ξ,opsOf→Φ,setCells→ac,bytes→fY,bE→ge,rows→gn,fill→hZ,X→io,again→ly,comp→nz,last→pu,isAgg→qo,append→rt
open Go.Proofs.Tryz renaming prog→κ,f112→Ψ,underlying9→aE,f46→cp,f110→m7,f74→qq
open Go renaming Value→ο,World→Γ
open Int renaming reduceNeg→φ,reduceLT→dv
open Go.AxS renaming Step→am
open Prod renaming fst→be
open List renaming range→co,replicate→db,length→df,set_eq_take_append_cons_drop→kw,range'→r8
open Go.Ax.V renaming bool→du,int→fj
open Go.DataW renaming weights→fd,weightsEach→ie
open Go.Value renaming okWide→qr
open Eq renaming mpr→rl
open List (map_nil)
section
namespace Go.Proofs.YtmbikbgdbbcbmaaGreatDoor
open Go Go.Ax Go.AxS
section
section
variable {E:Env}{Z:Sg}{K:V->Sg->Prop}
def mK(n:Nat)(g:Nat->Bool):List V:=(co n).map λk=>du (g k)
def s_(n i:Nat):List V:=(co i).map (λj=>V.sl (j+1) 0 n none)++db (n-i) .aG
def qQ(ex:Bool)(n i:Nat)(c:Nat->Nat->Bool):Sg:=.cells 105 (s_ n i) true::(co i).map λj=>ζ 4 (mK n (c j)) ex
def JN(n:Nat)(c:Nat->Nat->Bool):List (List Bool):=(co n).map λi=>(co n).map (c i)
def I7(c:Nat->Nat->Bool)(i k:Nat)(b:Bool):Nat->Nat->Bool:=λx y=>if x=i/\y=k then b else c x y
theorem mT{n:Nat}{g:Nat->Bool}:(mK n g).length=n:=by simp[mK]
theorem p_{n i:Nat}(h:i<=n):(s_ n i).length=n:=by simp[s_];omega
theorem vD{n i j:Nat}(h:j<i):(s_ n i)[j]?=some (.sl (j+1) 0 n none):=by
 unfold s_;rw[au (by simpa using h)];simp[h]
theorem zG{n k:Nat}{g:Nat->Bool}(h:k<n):(mK n g)[k]?=some (.bool (g k)):=by simp[mK,h]
theorem DN{ex:Bool}{n i:Nat}{c:Nat->Nat->Bool}:(qQ ex n i c).length=i+1:=by simp[qQ]
theorem ab1{ex:Bool}{n i:Nat}{c:Nat->Nat->Bool}:(qQ ex n i c)[0]?=some (.cells 105 (s_ n i) true):=rfl
theorem DM{ex:Bool}{n i j:Nat}{c:Nat->Nat->Bool}(h:j<i):(qQ ex n i c)[j+1]?=some (.cells 4 (mK n (c j)) ex):=by
 simp[qQ,h]
theorem G8(h:bG E){n j:Nat}(hj:j<n):indexAddr E 68 (.sl 0 0 n none) (.int .i64 (j:Int))=some (.ref 0 j):=by
 have hneg:¬ ((j:Int)<0):=by omega
 unfold indexAddr;simp only[hneg,b9,h.Pe,h.rM,dx,hj,bf,dc,pg]
theorem DG(h:bG E){n j k:Nat}(hk:k<n):indexAddr E 105 (.sl (j+1) 0 n none) (.int .i64 (k:Int))=some (.ref (j+1) k):=by
 have hneg:¬ ((k:Int)<0):=by omega
 unfold indexAddr;simp only[hneg,b9,h.rM,h.Ex,dx,hk,bf,dc,pg]
theorem G0(h:bG E){ex:Bool}{n i j:Nat}{c:Nat->Nat->Bool}(hj:j<i):loadAt E (qQ ex n i c) 105 (.ref 0 j)=some (.sl (j+1) 0 n none):=by
 unfold loadAt;simp only[h.rM,ab1,qo,ai,b9,vD hj]
theorem KE(h:bG E){ex:Bool}{n i j k:Nat}{c:Nat->Nat->Bool}(hj:j<i)(hk:k<n):loadAt E (qQ ex n i c) 4 (.ref (j+1) k)=some (.bool (c j k)):=by
 unfold loadAt;simp only[h.Ex,DM hj,qo,ai,b9,zG hk]
theorem P7{n k:Nat}{g:Nat->Bool}{b:Bool}(hk:k<n):ac (mK n g) k [.bool b]=mK n (λy=>if y=k then b else g y):=by
 have e:ac (mK n g) k [.bool b]=(mK n g).set k (.bool b):=by
  unfold ac;rw[kw,az (by rw[mT];exact hk)];simp
 rw[e];apply jw;intro i;by_cases hi:i<n
 ·by_cases hik:k=i
  ·subst hik;rw[br (by rw[mT];exact hk),zG hk,az rfl]
  ·rw[aa hik,zG hi,zG hi,an (λe=>hik e.symm)]
 ·rw[ir (by rw[dy,mT];omega),ir (by rw[mT];omega)]
theorem J3(h:bG E){ex:Bool}{n i j k:Nat}{c:Nat->Nat->Bool}{b:Bool}(hj:j<i)(hk:k<n):storeAt E (qQ ex n i c) 4 (.ref (j+1) k) (.bool b)=some (qQ ex n i (I7 c j k b)):=by
 unfold storeAt;simp only[h.Ex,DM hj];rw[az (by simp only[V.cells,V.aZ,IT,aq,iy,ki,mT,me,ak,af];exact⟨rfl,by omega⟩)];refine b8 some ?_;rw[show V.cells (.bool b)=[.bool b] from rfl,P7 hk];apply jw;intro q;cases q with
 |zero=>rw[aa (by omega)];rfl
 |succ q=>
  by_cases hq:q<i
  ·rw[DM hq];by_cases hjq:j=q
   ·subst hjq;rw[br (by rw[DN];omega)];congr 2;unfold mK;refine jk λy _=>?_;simp[I7]
   ·rw[aa (by omega),DM hq];congr 2;unfold mK;refine jk λy _=>?_;have:¬ (q=j/\y=k):=λe=>hjq e.1.symm;simp[I7,this]
  ·rw[ir (by rw[dy,DN];omega),ir (by rw[DN];omega)]
theorem Pr(h:bG E){ex:Bool}{n i:Nat}{c:Nat->Nat->Bool}(hi:i<n):storeAt E (qQ ex n i c++[.cells 4 (mK n (c i)) ex]) 105 (.ref 0 i) (.sl (i+1) 0 n none)=some (qQ ex n (i+1) c):=by
 unfold storeAt;have h0:(qQ ex n i c++[ζ 4 (mK n (c i)) ex])[0]?=some (.cells 105 (s_ n i) true):=rfl;simp only[h.rM,h0];rw[az (by simp only[V.cells,V.aZ,IT,aq,iy,ki,p_ (Nat.le_of_lt hi),me,ak,af];exact⟨rfl,by omega⟩)];refine b8 some ?_
 have e:ac (s_ n i) i [.sl (i+1) 0 n none]=s_ n (i+1):=by
  unfold ac;apply jw;intro q;have hl:((s_ n i).take i).length=i:=by rw[bl,p_ (Nat.le_of_lt hi)];omega
  rcases jn q i with hq | rfl | hq
  ·rw[cw,au (by omega),ik,az hq,vD hq,vD (by omega)]
  ·rw[cw,bg (by omega),hl,j9,vD (by omega)];rfl
  ·have e1:(s_ n (i+1))[q]?=if q<n then some .aG else none:=by
    unfold s_;rw[bg (by simp;omega),bw,qd,List.getElem?_replicate];by_cases g:q<n
    ·rw[az (by omega),az g]
    ·rw[an (by omega),an g]
   rw[e1,cw,bg (by omega),hl,bg (by simp;omega),dj,jf];unfold s_;rw[bg (by simp;omega),bw,qd,List.getElem?_replicate];by_cases g:q<n
   ·rw[az (by omega),az g]
   ·rw[an (by omega),an g]
 rw[show V.cells (.sl (i+1) 0 n none)=[.sl (i+1) 0 n none] from rfl,e];unfold qQ;rw[ey,kj,List.range_succ,gj];rfl
theorem Mh{n:Nat}{c:Nat->Nat->Bool}{i:Nat}(hi:i<n):(JN n c)[i]?=some ((co n).map (c i)):=by simp[JN,hi]
theorem Tq{n:Nat}{c:Nat->Nat->Bool}:(JN n c).length=n:=by simp[JN]
theorem Tc{n:Nat}{g:Nat->Bool}{k:Nat}(hk:k<n):((co n).map g)[k]?=some (g k):=by simp[hk]
theorem L2:∀l:List V,gn 1 l.length l=l.map λv=>[v]
 | []=>rfl
 |x::l=>by
  show ((x::l).take 1)::gn 1 l.length ((x::l).drop 1)=_;rw[show (x::l).drop 1=l from rfl,L2 l];rfl
theorem Mi{α β:Type}{f:α->Option β}:∀{l:List α}{m:List β},l.length=m.length->(∀(i:Nat)(a:α)(b:β),l[i]?=some a->m[i]?=some b->f a=some b)->aW f l=some m
 | [],[],_,_=>rfl
 |a::l,b::m,hl,h=>by
  rw[aW,h 0 a b rfl rfl,Mi (l:=l) (m:=m) (by simpa using hl) λi x y hx hy=>h (i+1) x y hx hy]
 | [],_::_,hl,_=>by simp at hl
 |_::_,[],hl,_=>by simp at hl
theorem HY(h:bG E){ex:Bool}{n:Nat}{c:Nat->Nat->Bool}:∃v,cQ (qQ ex n n c) E.ty false (.sl 0 0 n none)=some v/\kQ uX v (JN n c):=by
 let rv:Nat->V:=λi=>.bV false ((mK n (c i)).map λv=>[v]) (ex&&decide (0<1)&&(0+n*1==n))
 have hrow:∀i,i<n->∀m,bA (qQ ex n n c) E.ty false (m+2) (.sl (i+1) 0 n none)=some (rv i):=λi hi m=>by
  have hm:aW (λv=>match bA (qQ ex n n c) E.ty false (m+1) v with
    |some v=>if cI false v then some v else no "snap: borrowed"
    |none=>none) (mK n (c i))=some (mK n (c i)):=by
   refine gH λx hx=>?_;obtain⟨k,_,rfl⟩:=cv.1 hx;rfl
  rw[bA];simp only[DM hi,h.Ex];rw[az (by rw[mT];omega),ez,ah (by rw[mT];omega)]
  refine(b8 (λo=>match o with
   |some l=>some (V.bV false (gn 1 n l) (ex&&decide (0<1)&&(0+n*1==(mK n (c i)).length)))
   |none=>none) hm).trans ?_
  show some (V.bV false (gn 1 n (mK n (c i))) (ex&&decide (0<1)&&(0+n*1==(mK n (c i)).length)))=_
  have:gn 1 n (mK n (c i))=(mK n (c i)).map λv=>[v]:=by
   have:=L2 (mK n (c i));rwa [mT]at this
  rw[this,mT]
 have hout:bA (qQ ex n n c) E.ty false 12 (.sl 0 0 n none)=some (.bV false (((co n).map rv).map λv=>[v]) (true&&decide (0<1)&&(0+n*1==n))):=by
  have hm:aW (λv=>match bA (qQ ex n n c) E.ty false 11 v with
    |some v=>if cI false v then some v else no "snap: borrowed"
    |none=>none) (s_ n n)=some ((co n).map rv):=by
   refine Mi (by rw[p_ (OF n)];simp) λi a b ha hb=>?_
   have hi:i<n:=by
    have:=(AI.1 ha).1
    rwa [p_ (OF n)]at this
   rw[vD hi]at ha;cases ha;have hb:some (rv i)=some b:=by rw[<- hb];simp[hi]
   cases hb;rw[hrow i hi 9];rfl
  rw[bA];simp only[ab1,h.rM];rw[az (by rw[p_ (OF n)];omega),ez,ah (by rw[p_ (OF n)];omega)]
  refine(b8 (λo=>match o with
   |some l=>some (V.bV false (gn 1 n l) (true&&decide (0<1)&&(0+n*1==(s_ n n).length)))
   |none=>none) hm).trans ?_
  show some (V.bV false (gn 1 n ((co n).map rv)) (true&&decide (0<1)&&(0+n*1==(s_ n n).length)))=_
  have:gn 1 n ((co n).map rv)=((co n).map rv).map λv=>[v]:=by
   have:=L2 ((co n).map rv);rwa [show ((co n).map rv).length=n by simp]at this
  rw[this,p_ (OF n)]
 refine⟨.bV false (((co n).map rv).map λv=>[v]) (true&&decide (0<1)&&(0+n*1==n)),?_,.inr ⟨((co n).map rv).map λv=>[v],true&&decide (0<1)&&(0+n*1==n),rfl,?_⟩⟩
 ·show (match bA (qQ ex n n c) E.ty false 12 (.sl 0 0 n none) with
   |some v=>if cI false v then some v else no "snap: borrowed"
   |none=>none)=_
  rw[hout];rfl
 ·unfold JN;rw[js];refine eL.map (P:=uX.P) (f:=(λv=>[v]) ∘ rv) (g:=λi=>(co n).map (c i)) (λi=>⟨rv i,rfl,.inr ⟨false,(mK n (c i)).map λv=>[v],ex&&decide (0<1)&&(0+n*1==n),rfl,?_⟩⟩) _;unfold mK;rw[js];exact eL.map (P:=Ei.P) (f:=(λv=>[v]) ∘ λk=>du (c i k)) (g:=c i) (λk=>rfl) _
def A9(c:Nat->Nat->Bool)(i:Nat)(g:Nat->Bool):Nat->Nat->Bool:=λx=>if x=i then g else c x
theorem I5{ex:Bool}{n i:Nat}{c c':Nat->Nat->Bool}(h:∀j,j<i->c j=c' j):qQ ex n i c=qQ ex n i c':=by
 unfold qQ;refine b8 _ (jk λj hj=>?_);rw[h j (k8.1 hj)]
theorem VS(h:bG E){ex:Bool}{n i:Nat}{c:Nat->Nat->Bool}{g:Nat->Bool}(hi:i<n):storeAt E (qQ ex n i c++[.cells 4 (mK n g) ex]) 105 (.ref 0 i) (.sl (i+1) 0 n none)=some (qQ ex n (i+1) (A9 c i g)):=by
 have:=Pr (ex:=ex) (c:=A9 c i g) h hi;rw[I5 (c:=A9 c i g) (c':=c) (λj hj=>by unfold A9;rw[an (by omega)]),show A9 c i g i=g from az rfl]at this;exact this
theorem I8{c:Nat->Nat->Bool}{i k:Nat}{g:Nat->Bool}{b:Bool}:I7 (A9 c i g) i k b=A9 c i (λy=>if y=k then b else g y):=by
 funext x y;unfold I7 A9;by_cases hx:x=i
 ·simp[hx]
 ·simp[hx]
theorem Ny(n:Nat):gG n [du false]=mK n λ_=>false:=by
 have:∀n:Nat,gG n [du false]=db n (du false):=by
  intro n
  induction n with
  |zero=>rfl
  |succ n ih=>rw[gG,ih];rfl
 rw[this];unfold mK;rw[List.map_const',qd]
theorem Fg(n:Nat):gG n [V.aG]=s_ n 0:=by
 have:∀n:Nat,gG n [V.aG]=db n V.aG:=by
  intro n
  induction n with
  |zero=>rfl
  |succ n ih=>rw[gG,ih];rfl
 rw[this];rfl
theorem Dt{rs:List aD}{f:bF}{k:Nat}(h:fO rs f=some k):k<rs.length:=by
 unfold fO at h;generalize (λr:aD=>decide (f∈r.outs))=p at h
 induction rs generalizing k with
 |nil=>cases h
 |cons r rs ih=>
  rw[bR]at h;split at h
  ·cases h;simp
  ·obtain⟨j,hj,rfl⟩:=Option.map_eq_some_iff.1 h;have:=ih hj;simp only[IT];omega
theorem Fe{rs:List aD}{f:bF}{k:Nat}(h:gL rs f=some k):k<rs.length:=by
 unfold gL at h;generalize (λr:aD=>decide (r.name=f))=p at h
 induction rs generalizing k with
 |nil=>cases h
 |cons r rs ih=>
  rw[bR]at h;split at h
  ·cases h;simp
  ·obtain⟨j,hj,rfl⟩:=Option.map_eq_some_iff.1 h;have:=ih hj;simp only[IT];omega
theorem qN{α:Type}{p:α->Bool}{l:List α}{j:Nat}{x:α}(hx:l[j]?=some x):(l.take (j+1)).any p=((l.take j).any p||p x):=by
 rw[dz,hx,List.any_append];simp
structure yO (rs:List aD):Prop where
 len:rs.length<=64
 all:∀x∈rs,Small x
theorem oH:idx none = -1:=rfl
theorem e_{k:Nat}:idx (some k)=(k:Int):=rfl
theorem UX(h:bG E){a:V}{rs:List aD}(ha:LS dU 46 Z a rs)(hs:yO rs)(data:Bool):aB E 84 [a,.bool data] Z λv σ'=>σ'=Z/\kQ uX v (JN rs.length (iZ rs data)):=by
 obtain⟨a',ea,ia⟩:=fI h ha;rw[aH h.hs84 h.sp84 h.fn84 h.md84 (args':=[a',.bool data]) (by simp only[aW,ea,show aR Z E.ty true (.bool data)=some (.bool data) from rfl]),aU (by kernel_rfl)];have la:=dH h ia;have hn:=hs.len;generalize hN:rs.length=n at *;have c2:decide ((n:Int)*((24:Nat):Int)<=1099511627776)=true:=BY (by omega);have c3:decide ((n:Int)<=1099511627776)=true:=BY (by omega);have c4:decide ((n:Int)*((1:Nat):Int)<=1099511627776)=true:=BY (by omega);have hinit:([ζ 105 (s_ n 0) true]:Sg)=qQ true n 0 (iZ rs data):=rfl;simp only[aA,Tryz.f84,KP,↓reduceIte,ε,μ,reduceCtorEq,h.Pe,h.rM,la,c2,c3,Fg,dx,Int.le_refl,hinit];refine aV (λi F Y=>Y=qQ true n i (iZ rs data)/\F.get 0=a'/\F.get 1=.bool data/\F.get 5=.sl 0 0 n none/\F.get 6=.int .i64 (i:Int)) n ?_ ?_ n 0 _ _ (by omega) ⟨rfl,(by simp+decide only[GS,aj])⟩
 ·rintro i F Y hi ⟨rfl,g0,g1,g5,g6⟩ next
  obtain⟨r,hr⟩:∃y,rs[i]?=some y:=⟨_,AT (by omega)⟩;have hsr:=hs.all r (ag hr);have a1:=hsr.ins;have a3:=hsr.after;obtain⟨g,p1,p2,p3,p4,e1,i1,i2,i3,i4⟩:=fQ h ia hr;have l1:=bT h i1;have l3:=bT h i3;have hlt:=dR hi;have hadd:=bW i (by omega);have x1:=G8 h hi;have s1:=VS (ex:=true) (c:=iZ rs data) (g:=λ_=>false) h hi;rw[aF];simp only[KP,↓reduceIte,δ,ε,reduceCtorEq,Ms h,h.Ex,h.bB,h.bO,h.rM,g0,g5,g6,la,hlt,e1,l1,c3,c4,Ny,dx,Int.le_refl,DN,x1,s1];generalize hc:iZ rs data=c at *;have hmem:∀x∈rs,x.outs.length<=4294967296:=λx hx=>by have:=(hs.all x hx).outs;omega
  refine aV (λj F Y=>Y=qQ true n (i+1) (A9 c i λk=>(r.ins.take j).any λf=>decide (fO rs f=some k))/\F.get 0=a'/\F.get 1=.bool data/\F.get 5=.sl 0 0 n none/\F.get 6=.int .i64 (i:Int)/\F.get 32=p1/\F.get 33=.int .i64 (r.ins.length:Int)/\F.get 34=.int .i64 (j:Int)) r.ins.length ?_ ?_ r.ins.length 0 _ _ (by omega) ⟨by simp,(by simp+decide only[GS,g0,g1,g5,g6,aj])⟩
  ·rintro j F Y hj ⟨rfl,g0,g1,g5,g6,g32,g33,g34⟩ next2;obtain⟨f,hf⟩:∃y,r.ins[j]?=some y:=⟨_,AT hj⟩;obtain⟨g,e2⟩:=g_ h i1 hf;have hlt2:=dR hj;have hadd2:=bW j (by omega);generalize hC:(A9 c i λk=>(r.ins.take j).any λf=>decide (fO rs f=some k))=C;have km:=Mz (Z:=qQ true n (i+1) C) h (s:=f) (ia.ls _ 46) hmem (by omega);rw[aF];cases hm:fO rs f with
   |none=>
    simp only[KP,↓reduceIte,δ,ε,reduceCtorEq,Int.reduceLE,φ,tI h,g0,g32,g33,g34,hlt2,e2,km,hm,oH,hadd2];refine next2 _ _ ⟨?_,(by simp+decide only[GS,g0,g1,g5,g6,g32,g33,aj])⟩;rw[<- hC];refine b8 _ (b8 _ (funext λk=>?_));rw[qN hf,hm];simp
   |some k=>
    have hk:=Dt hm;rw[hN]at hk;have c0:decide ((0:Int)<=(k:Int))=true:=BY (by omega);have x2:=G0 (ex:=true) (c:=C) h (show i<i+1 by omega) (n:=n);have x3:=DG h (j:=i) hk;have x4:=J3 (ex:=true) (c:=C) (b:=true) h (show i<i+1 by omega) hk;simp only[KP,↓reduceIte,δ,ε,reduceCtorEq,tI h,g0,g5,g6,g32,g33,g34,hlt2,e2,km,hm,e_,x1,x2,x3,x4,hadd2];refine next2 _ _ ⟨?_,(by simp+decide only[GS,g0,g1,g5,g6,g32,g33,aj])⟩;rw[<- hC,I8];refine b8 _ (b8 _ (funext λy=>?_));rw[qN hf,hm];by_cases hy:y=k
    ·subst hy;simp
    ·rw[an hy,AS (λe=>hy (dh e).symm),Bool.or_false]
  ·rintro F Y ⟨rfl,g0,g1,g5,g6,g32,g33,g34⟩;have hlt2:=dW (bt r.ins.length);rw[ah (OF _)];rw[aF];simp only[KP,↓reduceIte,δ,ε,reduceCtorEq,Ms h,h.bB,h.bO,g0,g6,g33,g34,hlt2,e1,l3];refine aV (λj F Y=>Y=qQ true n (i+1) (A9 c i λk=>(r.ins.any λf=>decide (fO rs f=some k))||(!data&&(r.after.take j).any λm=>decide (gL rs m=some k)))/\F.get 0=a'/\F.get 1=.bool data/\F.get 5=.sl 0 0 n none/\F.get 6=.int .i64 (i:Int)/\F.get 54=p3/\F.get 55=.int .i64 (r.after.length:Int)/\F.get 56=.int .i64 (j:Int)) r.after.length ?_ ?_ r.after.length 0 _ _ (by omega) ⟨by simp,(by simp+decide only[GS,g0,g1,g5,g6,aj])⟩
   ·rintro j F Y hj ⟨rfl,g0,g1,g5,g6,g32,g33,g34⟩ next2;obtain⟨f,hf⟩:∃y,r.after[j]?=some y:=⟨_,AT hj⟩;obtain⟨g,e2⟩:=g_ h i3 hf;have hlt2:=dR hj;have hadd2:=bW j (by omega);generalize hC:(A9 c i λk=>(r.ins.any λf=>decide (fO rs f=some k))||(!data&&(r.after.take j).any λm=>decide (gL rs m=some k)))=C;have km:=Xk (Z:=qQ true n (i+1) C) h (s:=f) (ia.ls _ 46) (by omega);rw[aF];cases hm:gL rs f with
    |none=>
     simp only[KP,↓reduceIte,δ,ε,reduceCtorEq,Int.reduceLE,φ,tI h,g0,g32,g33,g34,hlt2,e2,km,hm,oH,hadd2];refine next2 _ _ ⟨?_,(by simp+decide only[GS,g0,g1,g5,g6,g32,g33,aj])⟩;rw[<- hC];refine b8 _ (b8 _ (funext λk=>?_));rw[qN hf,hm];simp
    |some k=>
     have hk:=Fe hm;rw[hN]at hk;have c0:decide ((0:Int)<=(k:Int))=true:=BY (by omega);cases data with
     |true=>
      simp only[KP,↓reduceIte,δ,ε,reduceCtorEq,tI h,g0,g1,g32,g33,g34,hlt2,e2,km,hm,e_,hadd2];refine next2 _ _ ⟨?_,(by simp+decide only[GS,g0,g1,g5,g6,g32,g33,aj])⟩;rw[<- hC];refine b8 _ (b8 _ (funext λk=>?_));simp
     |false=>
      have x2:=G0 (ex:=true) (c:=C) h (show i<i+1 by omega) (n:=n);have x3:=DG h (j:=i) hk;have x4:=J3 (ex:=true) (c:=C) (b:=true) h (show i<i+1 by omega) hk;simp only[KP,↓reduceIte,δ,ε,reduceCtorEq,tI h,g0,g1,g5,g6,g32,g33,g34,hlt2,e2,km,hm,e_,x1,x2,x3,x4,hadd2];refine next2 _ _ ⟨?_,(by simp+decide only[GS,g0,g1,g5,g6,g32,g33,aj])⟩;rw[<- hC,I8];refine b8 _ (b8 _ (funext λy=>?_));rw[qN hf,hm];by_cases hy:y=k
      ·subst hy;simp
      ·rw[an hy,AS (λe=>hy (dh e).symm),Bool.or_false]
   ·rintro F Y ⟨rfl,g0,g1,g5,g6,g32,g33,g34⟩;have hlt2:=dW (bt r.after.length);rw[ah (OF _)];rw[aF];simp only[KP,↓reduceIte,δ,ε,g6,g33,g34,hlt2,hadd];refine next _ _ ⟨I5 λj hj=>?_,(by simp+decide only[GS,g0,g1,g5,aj])⟩
    unfold A9;by_cases hji:j=i
    ·subst hji;rw[az rfl,<- hc];funext k;unfold iZ wL;rw[hr]
    ·rw[an hji]
 ·rintro F Y ⟨rfl,g0,g1,g5,g6⟩;have hlt:=dW (bt n);rw[aF];obtain⟨v,e1,hv⟩:=HY (ex:=true) (n:=n) (c:=iZ rs data) h;simp only[KP,↓reduceIte,δ,ε,reduceCtorEq,g0,g5,g6,la,hlt,e1];exact hv
theorem Lc{rs:List (List V)}{n:Nat}{g:Nat->Bool}(h:eL Ei.P rs ((co n).map g)):rs.flatten=mK n g:=by
 have:∀{rs:List (List V)}{l:List Bool},eL Ei.P rs l->rs.flatten=l.map du:=by
  intro rs l h
  induction h with
  |nil=>rfl
  |cons p _ ih=>rw[dn,ih,show _=[du _] from p];rfl
 rw[this h,js];rfl
theorem U7(h:bG E){Y:Sg}{v:V}{n:Nat}{g:Nat->Bool}(hn:0<n)(hn2:n<=64)(iv:IS Ei v ((co n).map g)):rt E Y #[105,105] .aG v=some (.sl Y.length 0 n none,Y++[.cells 4 (mK n g) false]):=by
 obtain⟨rs,e,ha⟩:=sA iv Y;have hn0:¬ n=0:=by omega
 have e:elems Y 1 v=some (rs.flatten,n):=by rw[bw,qd]at e;exact e
 have hr:pV n 1=true:=AN (b:=64) (by decide) hn2;unfold rt;simp only[show (#[105,105]:Array Nat)[0]?=some 105 from rfl,h.rM,h.Ex,Ir h,e,hn0,hr,bf,b9,dm,j8,ai,Lc ha,Nat.reduceBEq]
def xL(m:Nat->Nat->Bool)(k i j:Nat):Nat->Nat->Bool:=λx y=>if x<i\/(x=i/\y<j) then wk m (k+1) x y else wk m k x y
theorem XN{m:Nat->Nat->Bool}{k i j:Nat}:xL m k i j i k=wk m k i k:=by
 unfold xL;split
 ·exact O0 k i
 ·rfl
theorem XM{m:Nat->Nat->Bool}{k i j y:Nat}:xL m k i j k y=wk m k k y:=by
 unfold xL;split
 ·exact OY k y
 ·rfl
theorem XO{m:Nat->Nat->Bool}{k i j:Nat}:xL m k i j i j=wk m k i j:=by
 unfold xL;rw[an (by omega)]
theorem UF{m:Nat->Nat->Bool}{k i j:Nat}{b:Bool}(hb:b=wk m (k+1) i j):I7 (xL m k i j) i j b=xL m k i (j+1):=by
 funext x y;unfold I7 xL;by_cases h1:x=i
 ·subst h1;by_cases h2:y=j
  ·subst h2;rw[az ⟨rfl,rfl⟩,az (by omega),hb]
  ·rw[an (by omega)];by_cases h3:y<j
   ·rw[az (by omega),az (by omega)]
   ·rw[an (by omega),an (by omega)]
 ·rw[an (by omega)];by_cases h3:x<i
  ·rw[az (by omega),az (by omega)]
  ·rw[an (by omega),an (by omega)]
theorem wO{ex:Bool}{n i:Nat}{c c':Nat->Nat->Bool}(h:∀j,j<i->∀y,y<n->c j y=c' j y):qQ ex n i c=qQ ex n i c':=by
 unfold qQ;refine b8 _ (jk λj hj=>?_);refine b8 (λl=>ζ 4 l ex) (jk λy hy=>?_);rw[h j (k8.1 hj) y (k8.1 hy)]
theorem R2(h:bG E){a:V}{n:Nat}{m:Nat->Nat->Bool}(hn:n<=64)(ia:IS uX a (JN n m)):aB E 96 [a] Z λv σ'=>σ'=Z/\kQ uX v (JN n (wk m n)):=by
 rw[aH h.hs96 h.sp96 h.fn96 h.md96 (args':=[a]) (by simp only[aW,pR ia Z]),aU (by kernel_rfl)];have la:=QM h ia;rw[Tq]at la;have c2:decide ((n:Int)*((24:Nat):Int)<=1099511627776)=true:=BY (by omega);have c3:decide ((n:Int)<=1099511627776)=true:=BY (by omega);have hinit:([ζ 105 (s_ n 0) true]:Sg)=qQ false n 0 m:=rfl;have d16:=h.XA;simp only[aA,Tryz.f96,η,ay]at d16;simp only[aA,Tryz.f96,KP,↓reduceIte,ε,reduceCtorEq,h.Pe,h.rM,la,c2,c3,Fg,dx,Int.le_refl,hinit];refine aV (λi F Y=>Y=qQ false n i m/\F.get 0=a/\F.get 3=.int .i64 (n:Int)/\F.get 4=.sl 0 0 n none/\F.get 5=.int .i64 (i:Int)) n ?_ ?_ n 0 _ _ (by omega) ⟨rfl,(by simp+decide only[GS,aj])⟩
 ·rintro i F Y hi ⟨rfl,g0,g3,g4,g5⟩ next
  obtain⟨g,r,e1,rv,hr,irv⟩:=M0 h ia (Mh hi);have e1:indexAddr E 68 a (.int .i64 (i:Int))=some (.cR g [rv]):=by rw[e1,hr]
  have hlt:=dR hi;have hadd:=bW i (by omega);have x1:=G8 h hi;have ha:=U7 (Y:=qQ false n i m) h (by omega) hn irv;rw[DN]at ha;have s1:=Pr (ex:=false) (c:=m) h hi;rw[aF];simp only[KP,↓reduceIte,δ,ε,reduceCtorEq,jX h,g0,g3,g4,g5,hlt,e1,x1,ha,s1,hadd];exact next _ _ ⟨rfl,(by simp+decide only[GS,g0,g3,g4,aj])⟩
 ·rintro F Y ⟨rfl,g0,g3,g4,g5⟩;have hlt:=dW (bt n);rw[aF];simp only[KP,↓reduceIte,δ,ε,g3,g5,hlt];refine aV (λk F Y=>Y=qQ false n n (wk m k)/\F.get 3=.int .i64 (n:Int)/\F.get 4=.sl 0 0 n none/\F.get 6=.int .i64 (k:Int)) n ?_ ?_ n 0 _ _ (by omega) ⟨rfl,(by simp+decide only[GS,g3,g4,aj])⟩
  ·rintro k F Y hk ⟨rfl,g3,g4,g6⟩ next
   have hlt:=dR hk;have haddk:=bW k (by omega);rw[aF];simp only[KP,↓reduceIte,δ,ε,g3,g6,hlt];refine aV (λi F Y=>Y=qQ false n n (xL m k i 0)/\F.get 3=.int .i64 (n:Int)/\F.get 4=.sl 0 0 n none/\F.get 6=.int .i64 (k:Int)/\F.get 7=.int .i64 (i:Int)) n ?_ ?_ n 0 _ _ (by omega) ⟨wO λx hx y hy=>by unfold xL;rw[an (by omega)],(by simp+decide only[GS,g3,g4,g6,aj])⟩
   ·rintro i F Y hi ⟨rfl,g3,g4,g6,g7⟩ next2;have hlt:=dR hi;have haddi:=bW i (by omega);rw[aF];simp only[KP,↓reduceIte,δ,ε,g3,g7,hlt];refine aV (λj F Y=>Y=qQ false n n (xL m k i j)/\F.get 3=.int .i64 (n:Int)/\F.get 4=.sl 0 0 n none/\F.get 6=.int .i64 (k:Int)/\F.get 7=.int .i64 (i:Int)/\F.get 8=.int .i64 (j:Int)) n ?_ ?_ n 0 _ _ (by omega) ⟨rfl,(by simp+decide only[GS,g3,g4,g6,g7,aj])⟩
    ·rintro j F Y hj ⟨rfl,g3,g4,g6,g7,g8⟩ next3;have hlt:=dR hj;have haddj:=bW j (by omega);have v1:=XN (m:=m) (k:=k) (i:=i) (j:=j);have v2:=XM (m:=m) (k:=k) (i:=i) (j:=j) (y:=j);have v3:=XO (m:=m) (k:=k) (i:=i) (j:=j);have v4:=λb hb=>UF (m:=m) (k:=k) (i:=i) (j:=j) (b:=b) hb
     have v5:wk m k i k=false->qQ false n n (xL m k i j)=qQ false n n (xL m k (i+1) 0):=λhb=>wO λx hx y hy=>by
      unfold xL;by_cases h1:x=i
      ·subst h1;rw[az (show x<x+1\/x=x+1/\y<0 by omega)];split
       ·rfl
       ·rw[wk,hb];simp
      ·by_cases h3:x<i
       ·rw[az (by omega),az (by omega)]
       ·rw[an (by omega),an (by omega)]
     generalize hC:xL m k i j=C at *;have y1:=G8 h hi;have y2:=G0 (ex:=false) (c:=C) h hi (n:=n);have y3:=DG h (j:=i) hk;have y4:=KE (ex:=false) (c:=C) h hi hk;have y5:=DG h (j:=i) hj;have y6:=KE (ex:=false) (c:=C) h hi hj;have z1:=G8 h hk;have z2:=G0 (ex:=false) (c:=C) h hk (n:=n);have z3:=DG h (j:=k) hj;have z4:=KE (ex:=false) (c:=C) h hk hj;have st1:=λb=>J3 (ex:=false) (c:=C) (b:=b) h hi hj;rw[v1]at y4;rw[v3]at y6;rw[v2]at z4;rw[aF];cases w1:wk m k i k with
     |false=>
      simp only[KP,↓reduceIte,δ,ε,g3,g4,g6,g7,g8,hlt,y1,y2,y3,y4,w1,haddi];rw[v5 w1];exact next2 _ _ ⟨rfl,(by simp+decide only[GS,g3,g4,g6,aj])⟩
     |true=>
      have w3:∀b,b=(wk m k i j||wk m k k j)->I7 C i j b=xL m k i (j+1):=λb hb=>v4 b (by rw[hb,wk,w1,jd]);cases w2:wk m k i j with
      |true=>
       simp only[KP,↓reduceIte,δ,ε,g3,g4,g6,g7,g8,hlt,y1,y2,y3,y4,y5,y6,w1,w2,st1,haddj,aX d16,bS];rw[w3 true (by rw[w2];rfl)];exact next3 _ _ ⟨rfl,(by simp+decide only[GS,g3,g4,g6,g7,aj])⟩
      |false=>
       simp only[KP,↓reduceIte,δ,ε,g3,g4,g6,g7,g8,hlt,y1,y2,y3,y4,y5,y6,z1,z2,z3,z4,w1,w2,st1,haddj,aX d16,bS];rw[w3 _ (by rw[w2,Bool.false_or])];exact next3 _ _ ⟨rfl,(by simp+decide only[GS,g3,g4,g6,g7,aj])⟩
    ·rintro F Y ⟨rfl,g3,g4,g6,g7,g8⟩;have hlt:=dW (bt n)
     have v5:qQ false n n (xL m k i n)=qQ false n n (xL m k (i+1) 0):=wO λx hx y hy=>by
      unfold xL;by_cases h3:x<i+1
      ·rw[az (by omega),az (by omega)]
      ·rw[an (by omega),an (by omega)]
     rw[aF];simp only[KP,↓reduceIte,δ,ε,g3,g7,g8,hlt,haddi];rw[v5];exact next2 _ _ ⟨rfl,(by simp+decide only[GS,g3,g4,g6,aj])⟩
   ·rintro F Y ⟨rfl,g3,g4,g6,g7⟩;have hlt:=dW (bt n)
    have v5:qQ false n n (xL m k n 0)=qQ false n n (wk m (k+1)):=wO λx hx y hy=>by
     unfold xL;rw[az (by omega)]
    rw[aF];simp only[KP,↓reduceIte,δ,ε,g3,g6,g7,hlt,haddk];rw[v5];exact next _ _ ⟨rfl,(by simp+decide only[GS,g3,g4,aj])⟩
  ·rintro F Y ⟨rfl,g3,g4,g6⟩;have hlt:=dW (bt n);obtain⟨v,e1,hv⟩:=HY (ex:=false) (n:=n) (c:=wk m n) h;rw[aF];simp only[KP,↓reduceIte,δ,ε,g3,g4,g6,hlt,e1];exact hv
theorem GU(h:bG E){v:V}{n:Nat}{c:Nat->Nat->Bool}(iv:IS uX v (JN n c)){i k:Nat}(hi:i<n)(hk:k<n):∃g rv g2,indexAddr E 68 v (.int .i64 (i:Int))=some (.cR g [rv])/\indexAddr E 105 rv (.int .i64 (k:Int))=some (.cR g2 [.bool (c i k)]):=by
 obtain⟨g,r,e1,rv,hr,irv⟩:=M0 h iv (Mh hi);obtain⟨g2,r2,e2,hr2⟩:=R9 h irv (Tc hk);exact⟨g,rv,g2,by rw[e1,hr],by rw[e2,show r2=[.bool (c i k)] from hr2]⟩
theorem A4(h:bG E){n i:Nat}(hi:i<n):indexAddr E 115 (.sl 0 0 n none) (.int .i64 (i:Int))=some (.ref 0 i):=by
 have hneg:¬ ((i:Int)<0):=by omega
 unfold indexAddr;simp only[hneg,b9,h.Pg,h.mP,dx,hi,bf,dc,pg]
theorem G1(h:bG E){Y:Sg}{bC:List Int}{i:Nat}(hb:Y[0]?=some (ζ 3 (bC.map (fj .i64)) true))(hi:i<bC.length):loadAt E Y 3 (.ref 0 i)=some (.int .i64 (eR bC i)):=by
 unfold loadAt;simp only[h.mP,hb,qo,ai,b9,jm,AT hi,ck];unfold eR;rw[AT hi];rfl
theorem Lm(x:Int)(h1:-9223372036854775808<=x)(h2:x<=9223372036854775807):wr .i64 x=x:=by
 rw[Aw,az];have h3:lo .i64 = -9223372036854775808:=rfl;have h4:hi .i64=9223372036854775807:=rfl;rw[h3,h4,ak,af,af];exact⟨h1,h2⟩
structure adz (rs:List aD) (n first:Nat) (m:Nat->Nat->Bool) (bC:List Int):Prop where
 cnt:rs.length=n
 le:n<=64
 bC:nH m n first (n+1) 0 0 bC
theorem Ti{Y:Sg}{w:V}{l:List bF}{bC:List Int}(hb:Y[0]?=some (ζ 3 (bC.map (fj .i64)) true))(ow:aY aP 9 Y w l):aO w≠some 0:=by
 refine lU hb (by decide) ow
theorem RA(h:bG E){a vm:V}{rs:List aD}{n first:Nat}{m:Nat->Nat->Bool}{bC:List Int}(t:adz rs n first m bC)(ia:IS dU a rs)(im:IS uX vm (JN n m)){Y:Sg}{w:V}{l:List bF}{at_ left:Nat}(b0:Y[0]?=some (ζ 3 (bC.map (fj .i64)) true))(ow:aY aP 9 Y w l)(hl:l≠[]/\l.length+left<=100)(hat:at_<n)(hle:0<left->∃k,k<n/\m at_ k=true/\eR bC k=(left:Int))
  (F:FT)(g0:F.get 0=a)(g3:F.get 3=vm)(g7:F.get 7=.sl 0 0 n none)(g14:F.get 14=w)(g15:F.get 15=.int .i64 (at_:Int))(g16:F.get 16=.int .i64 (left:Int))
  (hk:∀Y w l,l≠[]->aY aP 9 Y w l->K w Y):R E (.loop (η [1,1,1,1,1,1,1,1,1,1,1,1,1,1,0,1,2,2] (aA Ψ).code)) [.blk 12,.k (η [1,1,1,1,1,1,1,1,1,1,1,1,1,1,1] (aA Ψ).code)] ⟨216,F⟩ Y (nV E (aA Ψ).results K):=by
 have tn:=t.cnt;have tl:=t.le;have tfl:=t.bC.len;have la:=dH h ia;rw[tn]at la;have d44:=h.Uy;simp only[aA,Ψ,η,ay]at d44;refine aV (λi F Y=>Y[0]?=some (ζ 3 (bC.map (fj .i64)) true)/\F.get 0=a/\F.get 3=vm/\F.get 7=.sl 0 0 n none/\F.get 16=.int .i64 ((left-i:Nat):Int)/\(∃w l,F.get 14=w/\aY aP 9 Y w l/\l≠[]/\l.length+(left-i)<=100)/\∃q:Nat,F.get 15=.int .i64 (q:Int)/\q<n/\(0<left-i->∃k,k<n/\m q k=true/\eR bC k=((left-i:Nat):Int))) left ?_ ?_ left 0 _ _ (by omega) ⟨b0,g0,g3,g7,g16,⟨w,l,g14,ow,hl⟩,at_,g15,hat,hle⟩
 ·rintro i F Y hi ⟨b0,g0,g3,g7,g16,⟨w,l,g14,ow,hl1,hl2⟩,q,g15,hq,hex⟩ next
  obtain⟨k0,hk0,hm0,hf0⟩:=hex (by omega);generalize hL:left-i=L at *;have hgt:decide ((0:Int)<(L:Int))=true:=BY (by omega);have hdn:=ES L (by omega) (by omega);rw[aF];simp only[aA,Ψ,KP,↓reduceIte,ε,φ,η,g16,hgt];refine aV (λk F τ'=>τ'=Y/\F.get 0=a/\F.get 3=vm/\F.get 7=.sl 0 0 n none/\F.get 14=w/\F.get 15=.int .i64 (q:Int)/\F.get 16=.int .i64 (L:Int)/\F.get 18=.int .i64 (k:Int)/\∃o:Option Nat,F.get 17=.int .i64 (idx o)/\((o=none/\∀j,j<k->¬ (m q j=true/\eR bC j=(L:Int)))\/∃p,o=some p/\p<n/\m q p=true/\eR bC p=(L:Int))) n ?_ ?_ n 0 _ _ (by omega) ⟨rfl,(Ef (by simp+decide only[GS,g0,g3,g7,g14,g15,g16,aj]) ⟨none,(by simp+decide only[GS,oH]),.inl ⟨rfl,λj hj=>by omega⟩⟩)⟩
  ·rintro k F τ' hk ⟨rfl,g0,g3,g7,g14,g15,g16,g18,o,g17,ho⟩ next2;have hlt:=dR hk;have hadd:=bW k (by omega);obtain⟨u1,rv,u2,e1,e2⟩:=GU h im hq hk;have e3:=A4 h hk;have e4:=G1 h b0 (i:=k) (by omega);obtain⟨rk,hrk⟩:∃y,rs[k]?=some y:=⟨_,AT (by omega)⟩;obtain⟨v1,p1,p2,p3,p4,e5,-⟩:=fQ h ia hrk;rw[aF];cases c1:m q k with
   |false=>
    simp only[KP,↓reduceIte,δ,ε,reduceCtorEq,φ,vK h,jX h,g0,g3,g15,g18,la,hlt,e1,e2,c1,hadd,aX d44,bS];refine next2 _ _ ⟨rfl,(Ef (by simp+decide only[GS,g0,g3,g7,g14,g15,g16,aj]) ⟨o,(by simp+decide only[GS,g17]),ho.imp (λ⟨h1,h2⟩=>⟨h1,λj hj=>?_⟩) id⟩)⟩;rcases cr j k with g | g
    ·exact h2 j g
    ·obtain rfl:j=k:=by omega
     rw[c1];simp
   |true=>
    by_cases c2:eR bC k=(L:Int)
    case neg=>
     have d2:decide (eR bC k=(L:Int))=false:=AS c2;simp only[KP,↓reduceIte,δ,ε,reduceCtorEq,φ,vK h,jX h,g0,g3,g7,g15,g16,g18,la,hlt,e1,e2,e3,e4,c1,d2,hadd,aX d44,bS];refine next2 _ _ ⟨rfl,(Ef (by simp+decide only[GS,g0,g3,g7,g14,g15,g16,aj]) ⟨o,(by simp+decide only[GS,g17]),ho.imp (λ⟨h1,h2⟩=>⟨h1,λj hj=>?_⟩) id⟩)⟩;rcases cr j k with g | g
     ·exact h2 j g
     ·obtain rfl:j=k:=by omega
      exact λe=>c2 e.2
    have d2:decide (eR bC k=(L:Int))=true:=BY c2;rcases ho with⟨rfl,-⟩ | ⟨p,rfl,hp,hmp,hfp⟩
    ·simp only[KP,↓reduceIte,δ,ε,reduceCtorEq,dv,φ,vK h,jX h,g0,g3,g7,g15,g16,g17,g18,la,hlt,e1,e2,e3,e4,c1,d2,hadd,oH,aX d44,bS];exact next2 _ _ ⟨rfl,(Ef (by simp+decide only[GS,g0,g3,g7,g14,g15,g16,aj]) ⟨some k,(by simp+decide only[GS,e_]),.inr ⟨k,rfl,hk,c1,c2⟩⟩)⟩
    ·have c0:decide ((p:Int)<0)=false:=AS (by omega);obtain⟨rp,hrp⟩:∃y,rs[p]?=some y:=⟨_,AT (by omega)⟩;obtain⟨v2,q1,q2,q3,q4,e6,-⟩:=fQ h ia hrp;cases c3:Ax.slt rk.name rp.name with
     |true=>
      simp only[KP,↓reduceIte,δ,ε,reduceCtorEq,φ,vK h,tI h,jX h,h.dJ,h.bO,g0,g3,g7,g15,g16,g17,g18,la,hlt,e1,e2,e3,e4,e5,e6,c1,d2,c0,c3,hadd,e_,aX d44,bS];exact next2 _ _ ⟨rfl,(Ef (by simp+decide only[GS,g0,g3,g7,g14,g15,g16,aj]) ⟨some k,(by simp+decide only[GS,e_]),.inr ⟨k,rfl,hk,c1,c2⟩⟩)⟩
     |false=>
      simp only[KP,↓reduceIte,δ,ε,reduceCtorEq,φ,vK h,tI h,jX h,h.dJ,h.bO,g0,g3,g7,g15,g16,g17,g18,la,hlt,e1,e2,e3,e4,e5,e6,c1,d2,c0,c3,hadd,e_,aX d44,bS];exact next2 _ _ ⟨rfl,(Ef (by simp+decide only[GS,g0,g3,g7,g14,g15,g16,aj]) ⟨some p,(by simp+decide only[GS,g17]),.inr ⟨p,rfl,hp,hmp,hfp⟩⟩)⟩
  ·rintro F τ' ⟨rfl,g0,g3,g7,g14,g15,g16,g18,o,g17,ho⟩;have hlt:=dW (bt n);rcases ho with⟨rfl,hno⟩ | ⟨p,rfl,hp,hmp,hfp⟩
   ·exact absurd ⟨hm0,hf0⟩ (hno k0 hk0)
   ·obtain⟨rp,hrp⟩:∃y,rs[p]?=some y:=⟨_,AT (by omega)⟩;obtain⟨v2,q1,q2,q3,q4,e6,-⟩:=fQ h ia hrp;obtain⟨w2,τ2,ha2,o2,k2,n2⟩:=Hx (s:=rp.name) (ex:=true) h ow (by omega);rw[aF];simp only[KP,↓reduceIte,δ,ε,ω,ap,reduceCtorEq,φ,tI h,h.dJ,h.bB,h.bO,g0,g14,g16,g17,g18,la,hlt,e6,e_,lM,ha2,hdn];clear hex;have hLi:L-1=left-(i+1):=by rw[<- hL,Nat.sub_sub]
    have b2:=k2 0 _ (aI b0) (Ti b0 ow);refine next _ _ ⟨b2,(fK (by simp+decide only[GS,g0,g3,g7,aj]) ⟨?_,⟨w2,_,(by simp+decide only[GS]),o2,by simp,?_⟩,p,(by simp+decide only[GS]),hp,λhpos=>?_⟩)⟩
    ·rw[hLi];exact(by simp+decide only[GS])
    ·simp only[By,IT,aq];omega
    ·obtain⟨e,he⟩:∃e:Nat,L=e+1:=⟨L-1,by omega⟩;obtain⟨k',h1,h2,h3⟩:=t.bC.down p e hp (by rw[hfp,he];omega);exact⟨k',h1,h2,by rw[h3];omega⟩
 ·rintro F Y ⟨b0,g0,g3,g7,g16,⟨w,l,g14,ow,hl1,hl2⟩,-⟩;rw[j9]at g16;rw[aF];simp only[aA,Ψ,KP,↓reduceIte,δ,ε,dv,φ,η,g16,g14];exact hk _ _ _ hl1 ow
theorem RC(h:bG E){a vm:V}{rs:List aD}{n first:Nat}{m:Nat->Nat->Bool}{bC:List Int}(t:adz rs n first m bC)(ia:IS dU a rs)(im:IS uX vm (JN n m))(hf:first<n)(hex:∃k,k<n/\m first k=true/\0<=eR bC k)
  (F:FT)(g0:F.get 0=a)(g3:F.get 3=vm)(g5:F.get 5=.int .i64 (first:Int))(g7:F.get 7=.sl 0 0 n none)
  (hk:∀Y w l,l≠[]->aY aP 9 Y w l->K w Y):R E (η [1,1,1,1,1,1,1,1,1,1] (aA Ψ).code) [] ⟨216,F⟩ [ζ 3 (bC.map (fj .i64)) true] (nV E (aA Ψ).results K):=by
 have tn:=t.cnt;have tl:=t.le;have tfl:=t.bC.len;have la:=dH h ia;rw[tn]at la;have b0:([ζ 3 (bC.map (fj .i64)) true]:Sg)[0]?=some (ζ 3 (bC.map (fj .i64)) true):=rfl;have key:=λY w l at_ left b0 ow hl hat hle F g0 g3 g7 g14 g15 g16=>RA (K:=K) h t ia im (Y:=Y) (w:=w) (l:=l) (at_:=at_) (left:=left) b0 ow hl hat hle F g0 g3 g7 g14 g15 g16 hk;rw[show η [1,1,1,1,1,1,1,1,1,1] (aA Ψ).code=.seq (η [1,1,1,1,1,1,1,1,1,1,0] (aA Ψ).code) (.seq (.seq (η [1,1,1,1,1,1,1,1,1,1,1,0,0] (aA Ψ).code) (.block 10 (.loop (η [1,1,1,1,1,1,1,1,1,1,1,0,1,2,2] (aA Ψ).code)))) (.seq (η [1,1,1,1,1,1,1,1,1,1,1,1,0] (aA Ψ).code) (.seq (η [1,1,1,1,1,1,1,1,1,1,1,1,1,0] (aA Ψ).code) (.seq (.seq (η [1,1,1,1,1,1,1,1,1,1,1,1,1,1,0,0] (aA Ψ).code) (.block 12 (.loop (η [1,1,1,1,1,1,1,1,1,1,1,1,1,1,0,1,2,2] (aA Ψ).code)))) (η [1,1,1,1,1,1,1,1,1,1,1,1,1,1,1] (aA Ψ).code))))) from rfl];generalize η [1,1,1,1,1,1,1,1,1,1,1,1,1,1,0,1,2,2] (aA Ψ).code=D at *;generalize η [1,1,1,1,1,1,1,1,1,1,1,1,1,1,1] (aA Ψ).code=C at *;simp only[aA,Ψ,KP,↓reduceIte,ε,φ,η];refine aV (λk F Y=>Y=[ζ 3 (bC.map (fj .i64)) true]/\F.get 0=a/\F.get 3=vm/\F.get 5=.int .i64 (first:Int)/\F.get 7=.sl 0 0 n none/\F.get 13=.int .i64 (k:Int)/\((F.get 12=.int .i64 0/\∀j,j<k->¬ (m first j=true/\0<=eR bC j))\/∃(q e:Nat),F.get 12=.int .i64 ((e+1:Nat):Int)/\q<n/\m first q=true/\eR bC q=(e:Int))) n ?_ ?_ n 0 _ _ (by omega) ⟨rfl,(kA (by simp+decide only[GS,g0,g3,g5,g7,aj]) (.inl ⟨(by simp+decide only[GS]),λj hj=>by omega⟩))⟩
 ·rintro k F Y hk2 ⟨rfl,g0,g3,g5,g7,g13,ho⟩ next
  have hlt:=dR hk2;have hadd:=bW k (by omega);obtain⟨u1,rv,u2,e1,e2⟩:=GU h im hf hk2;have e3:=A4 h hk2;have e4:=G1 h b0 (i:=k) (by omega);rw[aF]
  have hno:¬ (m first k=true/\0<=eR bC k)->((F.get 12=.int .i64 0/\∀j,j<k+1->¬ (m first j=true/\0<=eR bC j))\/∃(q e:Nat),F.get 12=.int .i64 ((e+1:Nat):Int)/\q<n/\m first q=true/\eR bC q=(e:Int)):=λhn=>ho.imp (λ⟨h1,h2⟩=>⟨h1,λj hj=>by
   rcases cr j k with g | g
   ·exact h2 j g
   ·obtain rfl:j=k:=by omega
    exact hn⟩) id
  have tr:∀{F':FT},F'.get 12=F.get 12->¬ (m first k=true/\0<=eR bC k)->((F'.get 12=.int .i64 0/\∀j,j<k+1->¬ (m first j=true/\0<=eR bC j))\/∃(q e:Nat),F'.get 12=.int .i64 ((e+1:Nat):Int)/\q<n/\m first q=true/\eR bC q=(e:Int)):=λhF hn=>by rw[hF];exact hno hn
  cases c1:m first k with
  |false=>
   simp only[KP,↓reduceIte,δ,ε,reduceCtorEq,vK h,jX h,g0,g3,g5,g13,la,hlt,e1,e2,c1,hadd];exact next _ _ ⟨rfl,(kA (by simp+decide only[GS,g0,g3,g5,g7,aj]) (tr (by simp+decide only[GS]) (λe=>by rw[c1]at e;cases e.1)))⟩
  |true=>
   by_cases c2:0<=eR bC k
   case neg=>
    have d2:decide (0<=eR bC k)=false:=AS c2;simp only[KP,↓reduceIte,δ,ε,reduceCtorEq,vK h,jX h,g0,g3,g5,g7,g13,la,hlt,e1,e2,e3,e4,c1,d2,hadd];exact next _ _ ⟨rfl,(kA (by simp+decide only[GS,g0,g3,g5,g7,aj]) (tr (by simp+decide only[GS]) (λe=>c2 e.2)))⟩
   obtain⟨e,he⟩:=Int.eq_ofNat_of_zero_le c2;have hsm:=t.bC.small hk2;have d2:decide ((0:Int)<=(e:Int))=true:=BY (by omega);have hw:=bW e (by omega);rw[he]at e4;rcases ho with⟨g12,-⟩ | ⟨q,e',g12,hq,hm,hfq⟩
   ·simp only[KP,↓reduceIte,δ,ε,reduceCtorEq,vK h,jX h,g0,g3,g5,g7,g13,g12,la,hlt,e1,e2,e3,e4,c1,hw,hadd];exact next _ _ ⟨rfl,(kA (by simp+decide only[GS,g0,g3,g5,g7,aj]) (.inr ⟨k,e,(by simp+decide only[GS]),hk2,c1,he⟩))⟩
   ·have d3:decide (((e'+1:Nat):Int)=0)=false:=AS (by omega);cases c3:decide (((e+1:Nat):Int)<((e'+1:Nat):Int)) with
    |true=>
     simp only[KP,↓reduceIte,δ,ε,reduceCtorEq,vK h,jX h,g0,g3,g5,g7,g13,g12,la,hlt,e1,e2,e3,e4,c1,d3,hw,c3,hadd];exact next _ _ ⟨rfl,(kA (by simp+decide only[GS,g0,g3,g5,g7,aj]) (.inr ⟨k,e,(by simp+decide only[GS]),hk2,c1,he⟩))⟩
    |false=>
     simp only[KP,↓reduceIte,δ,ε,reduceCtorEq,vK h,jX h,g0,g3,g5,g7,g13,g12,la,hlt,e1,e2,e3,e4,c1,d3,hw,c3,hadd];exact next _ _ ⟨rfl,(kA (by simp+decide only[GS,g0,g3,g5,g7,aj]) (.inr ⟨q,e',(by simp+decide only[GS,g12]),hq,hm,hfq⟩))⟩
 ·rintro F Y ⟨rfl,g0,g3,g5,g7,g13,ho⟩;have hlt:=dW (bt n);rcases ho with⟨-,hno⟩ | ⟨q,e,g12,hq,hm,hfq⟩
  ·obtain⟨k,h1,h2,h3⟩:=hex;exact absurd ⟨h2,h3⟩ (hno k h1)
  ·have hsm:=t.bC.small hq;have hw:=ES (e+1) (by omega) (by omega);obtain⟨rf,hrf⟩:∃y,rs[first]?=some y:=⟨_,AT (by omega)⟩;obtain⟨v1,p1,p2,p3,p4,e5,-⟩:=fQ h ia hrf;rw[aF];simp only[KP,↓reduceIte,δ,ε,ω,ap,reduceCtorEq,tI h,h.dJ,h.bB,h.bO,g0,g5,g13,g12,la,hlt,e5,lM,hw];refine key [ζ 3 (bC.map (fj .i64)) true,.cells 9 [.str rf.name] true] (.sl 1 0 1 none) [rf.name] first e rfl (.inr ⟨1,[[.str rf.name]],true,rfl,rfl,.one rfl⟩) ⟨by simp,by simp only[IT,aq];omega⟩ hf (λ_=>⟨q,hq,hm,hfq⟩) _ ?_ ?_ ?_ ?_ ?_ ?_
   ·simp+decide only[GS,g0]
   ·simp+decide only[GS,g3]
   ·simp+decide only[GS,g7]
   ·simp+decide only[GS]
   ·simp+decide only[GS]
   ·simp+decide only[GS,o6]
theorem J4(h:bG E){bC:List Int}{i:Nat}{d:Int}(hi:i<bC.length):storeAt E [ζ 3 (bC.map (fj .i64)) true] 3 (.ref 0 i) (.int .i64 d)=some [ζ 3 ((bC.set i d).map (fj .i64)) true]:=by
 unfold storeAt;have h0:([ζ 3 (bC.map (fj .i64)) true]:Sg)[0]?=some (ζ 3 (bC.map (fj .i64)) true):=rfl;simp only[h.mP,h0];rw[az (by simp only[V.cells,V.aZ,IT,aq,iy,ki,bw,me,ak,af];exact⟨rfl,by omega⟩)];refine b8 some ?_;show [ζ 3 (ac (bC.map (fj .i64)) i [fj .i64 d]) true]=_
 have:ac (bC.map (fj .i64)) i [fj .i64 d]=(bC.set i d).map (fj .i64):=by
  unfold ac;rw[List.map_set,kw,az (by simpa using hi)];simp
 rw[this]
theorem UC(h:bG E){a vm:V}{rs:List aD}{n first:Nat}{m:Nat->Nat->Bool}(hn:rs.length=n)(hle:n<=64)(ia:IS dU a rs)(im:IS uX vm (JN n m))(hf:first<n)(hmn:∀i j,m i j=true->i<n/\j<n)(hw:AxS.Way m first first){bC:List Int}(hfar:nH m n first 1 0 0 bC)
  (F:FT)(g0:F.get 0=a)(g3:F.get 3=vm)(g5:F.get 5=.int .i64 (first:Int))(g7:F.get 7=.sl 0 0 n none)
  (hk:∀Y w l,l≠[]->aY aP 9 Y w l->K w Y):R E (η [1,1,1,1,1,1,1,1,1] (aA Ψ).code) [] ⟨216,F⟩ [ζ 3 (bC.map (fj .i64)) true] (nV E (aA Ψ).results K):=by
 have la:=dH h ia;rw[hn]at la;have key:=λbC (hfar:nH m n first (n+1) 0 0 bC) F g0 g3 g5 g7=>RC (K:=K) h ⟨hn,hle,hfar⟩ ia im hf (hfar.first hmn hf hw) F g0 g3 g5 g7 hk;rw[show η [1,1,1,1,1,1,1,1,1] (aA Ψ).code=.seq (η [1,1,1,1,1,1,1,1,1,0] (aA Ψ).code) (η [1,1,1,1,1,1,1,1,1,1] (aA Ψ).code) from rfl];generalize η [1,1,1,1,1,1,1,1,1,1] (aA Ψ).code=C at *;simp only[aA,Ψ,KP,↓reduceIte,ε,φ,η];refine aV (λd F Y=>∃bC,Y=[ζ 3 (bC.map (fj .i64)) true]/\nH m n first (d+1) 0 0 bC/\F.get 0=a/\F.get 3=vm/\F.get 5=.int .i64 (first:Int)/\F.get 7=.sl 0 0 n none/\F.get 9=.int .i64 ((d+1:Nat):Int)) n ?_ ?_ n 0 _ _ (by omega) ⟨bC,rfl,hfar,(fZ (by simp+decide only[GS,g0,g3,g5,g7,aj]) (by simp+decide only[GS];rfl))⟩
 ·rintro d F Y hd ⟨bC,rfl,hfar,g0,g3,g5,g7,g9⟩ next
  have hle1:decide (((d+1:Nat):Int)<=(n:Int))=true:=BY (by omega);have haddd:=bW (d+1) (by omega);have hsub:=ES (d+1) (by omega) (by omega);rw[aF];simp only[KP,↓reduceIte,δ,ε,reduceCtorEq,g0,g9,la,hle1];refine aV (λi F Y=>∃bC,Y=[ζ 3 (bC.map (fj .i64)) true]/\nH m n first (d+1) i 0 bC/\F.get 0=a/\F.get 3=vm/\F.get 5=.int .i64 (first:Int)/\F.get 7=.sl 0 0 n none/\F.get 9=.int .i64 ((d+1:Nat):Int)/\F.get 10=.int .i64 (i:Int)) n ?_ ?_ n 0 _ _ (by omega) ⟨bC,rfl,hfar,(by simp+decide only[GS,g0,g3,g5,g7,g9,aj])⟩
  ·rintro i F Y hi ⟨bC,rfl,hfar,g0,g3,g5,g7,g9,g10⟩ next2;have hlt:=dR hi;have haddi:=bW i (by omega);rw[aF];simp only[KP,↓reduceIte,δ,ε,reduceCtorEq,g0,g10,la,hlt];refine aV (λk F Y=>∃bC,Y=[ζ 3 (bC.map (fj .i64)) true]/\nH m n first (d+1) i k bC/\F.get 0=a/\F.get 3=vm/\F.get 5=.int .i64 (first:Int)/\F.get 7=.sl 0 0 n none/\F.get 9=.int .i64 ((d+1:Nat):Int)/\F.get 10=.int .i64 (i:Int)/\F.get 11=.int .i64 (k:Int)) n ?_ ?_ n 0 _ _ (by omega) ⟨bC,rfl,hfar,(by simp+decide only[GS,g0,g3,g5,g7,g9,g10,aj])⟩
   ·rintro k F Y hk2 ⟨bC,rfl,hfar,g0,g3,g5,g7,g9,g10,g11⟩ next3;have tfl:=hfar.len;have b0:([ζ 3 (bC.map (fj .i64)) true]:Sg)[0]?=some (ζ 3 (bC.map (fj .i64)) true):=rfl;have hlt:=dR hk2;have haddk:=bW k (by omega);obtain⟨u1,rv,u2,e1,e2⟩:=GU h im hi hk2;have e3:=A4 h hi;have e4:=G1 h b0 (i:=i) (by omega);have e5:=A4 h hk2;have e6:=G1 h b0 (i:=k) (by omega);rw[aF];by_cases c0:eR bC i<0
    case neg=>
     have d0:decide (eR bC i<0)=false:=AS c0;simp only[KP,↓reduceIte,δ,ε,reduceCtorEq,g0,g7,g10,g11,la,hlt,e3,e4,d0,haddi];exact next2 _ _ ⟨bC,rfl,hfar.next (.inr (by omega)) hi,(by simp+decide only[GS,g0,g3,g5,g7,g9,aj])⟩
    have d0:decide (eR bC i<0)=true:=BY c0;cases c1:m i k with
    |false=>
     simp only[KP,↓reduceIte,δ,ε,reduceCtorEq,vK h,jX h,g0,g3,g7,g10,g11,la,hlt,e1,e2,e3,e4,d0,c1,haddk];exact next3 _ _ ⟨bC,rfl,hfar.skip (λe=>by rw[c1]at e;cases e.1),(by simp+decide only[GS,g0,g3,g5,g7,g9,g10,aj])⟩
    |true=>
     by_cases c2:eR bC k=(d:Int)
     ·have d2:decide (eR bC k=((d+1-1:Nat):Int))=true:=BY (by rw[c2];rfl);have s1:=J4 h (bC:=bC) (i:=i) (d:=((d+1:Nat):Int)) (by omega);simp only[KP,↓reduceIte,δ,ε,reduceCtorEq,vK h,jX h,g0,g3,g7,g9,g10,g11,la,hlt,e1,e2,e3,e4,e5,e6,d0,c1,hsub,d2,s1,haddk];exact next3 _ _ ⟨_,rfl,hfar.put hi hk2 (by omega) c0 c1 (by rw[c2];omega),(by simp+decide only[GS,g0,g3,g5,g7,g9,g10,aj])⟩
     ·have d2:decide (eR bC k=((d+1-1:Nat):Int))=false:=AS (by rw[o6];exact c2);simp only[KP,↓reduceIte,δ,ε,reduceCtorEq,vK h,jX h,g0,g3,g7,g9,g10,g11,la,hlt,e1,e2,e3,e4,e5,e6,d0,c1,hsub,d2,haddk];exact next3 _ _ ⟨bC,rfl,hfar.skip (λe=>c2 (by rw[e.2];omega)),(by simp+decide only[GS,g0,g3,g5,g7,g9,g10,aj])⟩
   ·rintro F Y ⟨bC,rfl,hfar,g0,g3,g5,g7,g9,g10,g11⟩;have hlt:=dW (bt n);rw[aF];simp only[KP,↓reduceIte,δ,ε,reduceCtorEq,g0,g10,g11,la,hlt,haddi];exact next2 _ _ ⟨bC,rfl,hfar.next (.inl rfl) hi,(by simp+decide only[GS,g0,g3,g5,g7,g9,aj])⟩
  ·rintro F Y ⟨bC,rfl,hfar,g0,g3,g5,g7,g9,g10⟩;have hlt:=dW (bt n);rw[aF];simp only[KP,↓reduceIte,δ,ε,reduceCtorEq,g0,g9,g10,la,hlt,haddd];exact next _ _ ⟨bC,rfl,hfar.round,(by simp+decide only[GS,g0,g3,g5,g7,aj])⟩
 ·rintro F Y ⟨bC,rfl,hfar,g0,g3,g5,g7,g9⟩;have hle1:decide (((n+1:Nat):Int)<=(n:Int))=false:=AS (by omega);rw[aF];simp only[KP,↓reduceIte,δ,ε,reduceCtorEq,g0,g9,la,hle1];refine key bC hfar _ ?_ ?_ ?_ ?_
  ·simp+decide only[GS,g0]
  ·simp+decide only[GS,g3]
  ·simp+decide only[GS,g5]
  ·simp+decide only[GS,g7]
theorem P9(n:Nat):gG n [fj .i64 0]=(db n (0:Int)).map (fj .i64):=by
 induction n with
 |zero=>rfl
 |succ n ih=>rw[gG,ih];rfl
theorem S9{n i:Nat}(hi:i<n):(db i (-1:Int)++db (n-i) 0).set i (-1)=db (i+1) (-1)++db (n-(i+1)) 0:=by
 obtain⟨d,rfl⟩:∃d,n=i+(d+1):=⟨n-i-1,by omega⟩;rw[o7 _ _ (by simp),List.length_replicate,j9,show i+(d+1)-i=d+1 by omega,List.replicate_succ,kj,show i+(d+1)-(i+1)=d by omega,List.replicate_succ'];simp
theorem RB(h:bG E){a vm:V}{rs:List aD}{n:Nat}{m:Nat->Nat->Bool}(hn:rs.length=n)(hle:n<=64)(ia:IS dU a rs)(im:IS uX vm (JN n m))(hmn:∀i j,m i j=true->i<n/\j<n){o:Option Nat}(ho:∀f,o=some f->f<n/\AxS.Way m f f)
  (F:FT)(g0:F.get 0=a)(g3:F.get 3=vm)(g5:F.get 5=.int .i64 (idx o))
  (hk:o≠none->∀Y w l,l≠[]->aY aP 9 Y w l->K w Y)(hk0:o=none->K .aG []):R E (η [1,1,1,1,1] (aA Ψ).code) [] ⟨216,F⟩ [] (nV E (aA Ψ).results K):=by
 have la:=dH h ia;rw[hn]at la;cases o with
 |none=>
  simp only[aA,Ψ,KP,↓reduceIte,ε,dv,φ,η,g5,oH];exact hk0 rfl
 |some first=>
  obtain⟨hf,hw⟩:=ho first rfl
  have key:=λbC hfar F g0 g3 g5 g7=>UC (K:=K) h hn hle ia im hf hmn hw (bC:=bC) hfar F g0 g3 g5 g7 (hk (by simp));have c0:decide ((first:Int)<0)=false:=AS (by omega);have c2:decide ((n:Int)*((8:Nat):Int)<=1099511627776)=true:=BY (by omega);have c3:decide ((n:Int)<=1099511627776)=true:=BY (by omega);have lf:∀Z,lenOf E Z 115 (.sl 0 0 n none)=some n:=λZ=>by unfold lenOf;rw[h.Pg]
  rw[show η [1,1,1,1,1] (aA Ψ).code=.seq (η [1,1,1,1,1,0] (aA Ψ).code) (.seq (η [1,1,1,1,1,1,0] (aA Ψ).code) (.seq (η [1,1,1,1,1,1,1,0] (aA Ψ).code) (.seq (η [1,1,1,1,1,1,1,1,0] (aA Ψ).code) (η [1,1,1,1,1,1,1,1,1] (aA Ψ).code)))) from rfl];generalize η [1,1,1,1,1,1,1,1,1] (aA Ψ).code=C at *;simp only[aA,Ψ,KP,↓reduceIte,ε,reduceCtorEq,φ,h.mP,h.Pg,η,g0,g5,e_,c0,la,c2,c3,dx,Int.le_refl,P9,lf];refine aV (λi F Y=>∃bC,Y=[ζ 3 (bC.map (fj .i64)) true]/\bC=db i (-1)++db (n-i) 0/\F.get 0=a/\F.get 3=vm/\F.get 5=.int .i64 (first:Int)/\F.get 7=.sl 0 0 n none/\F.get 60=.int .i64 (n:Int)/\F.get 61=.int .i64 (i:Int)) n ?_ ?_ n 0 _ _ (by omega) ⟨_,rfl,by simp,(by simp+decide only[GS,g0,g3,g5,e_,aj])⟩
  ·rintro i F Y hi ⟨bC,rfl,hfar,g0,g3,g5,g7,g60,g61⟩ next
   have hlt:=dR hi;have hadd:=bW i (by omega);have hfl:bC.length=n:=by rw[hfar];simp;omega
   have e1:=A4 h hi;have s1:=J4 h (bC:=bC) (i:=i) (d:=-1) (by omega);rw[aF];simp only[KP,↓reduceIte,δ,ε,φ,g7,g60,g61,hlt,e1,s1,hadd];exact next _ _ ⟨_,rfl,by rw[hfar,S9 hi],(by simp+decide only[GS,g0,g3,g5,g7,g60,aj])⟩
  ·rintro F Y ⟨bC,rfl,hfar,g0,g3,g5,g7,g60,g61⟩;have hlt:=dW (bt n);have hfar:bC=db n (-1):=by rw[hfar];simp
   have e1:=A4 h hf;have s1:=J4 h (bC:=bC) (i:=first) (d:=0) (by rw[hfar];simpa using hf);rw[aF];simp only[KP,↓reduceIte,δ,ε,φ,g5,g7,g60,g61,hlt,e1,s1];refine key (bC.set first 0) ?_ _ ?_ ?_ ?_ ?_
   ·rw[hfar];exact nH.init hf
   ·simp+decide only[GS,g0]
   ·simp+decide only[GS,g3]
   ·simp+decide only[GS,g5]
   ·simp+decide only[GS,g7]
theorem Qp{rs:List aD}{d:Bool}:∀i j,iZ rs d i j=true->i<rs.length/\j<rs.length:=by
 intro i j hij;unfold iZ at hij;split at hij
 ·rename_i r hr;refine⟨(AI.1 hr).1,?_⟩;unfold wL at hij;rw[fl]at hij;rcases hij with hij | hij
  ·obtain⟨f,_,hf⟩:=fh.1 hij;exact Dt (er hf)
  ·rw[ak]at hij;obtain⟨f,_,hf⟩:=fh.1 hij.2;exact Fe (er hf)
 ·cases hij
theorem UD(h:bG E){a:V}{rs:List aD}(hs:yO rs)(ia:IS dU a rs)(F:FT)(g0:F.get 0=a)
  (hk:(∃i,i<rs.length/\AxS.Way (iZ rs false) i i)->∀Y w l,l≠[]->aY aP 9 Y w l->K w Y)(hk0:(∀i,i<rs.length->¬ AxS.Way (iZ rs false) i i)->K .aG []):R E (aA Ψ).code [] ⟨216,F⟩ [] (nV E (aA Ψ).results K):=by
 have la:=dH h ia;have hle:=hs.len;have hmn:=Qp (rs:=rs) (d:=false);have bn:=UX (Z:=[]) h (a:=a) (ia.ls [] 46) hs false;generalize hm:iZ rs false=m at *;generalize hn:rs.length=n at *;have key:=λvm (im:IS uX vm (JN n m)) o ho F g0 g3 g5 hk hk0=>RB (K:=K) h hn hle ia im hmn (o:=o) ho F g0 g3 g5 hk hk0;have d7:=h.XL;simp only[aA,Ψ,η,ay]at d7;rw[show (aA Ψ).code=.seq (η [0] (aA Ψ).code) (.seq (η [1,0] (aA Ψ).code) (.seq (η [1,1,0] (aA Ψ).code) (.seq (η [1,1,1,0] (aA Ψ).code) (.seq (η [1,1,1,1,0] (aA Ψ).code) (η [1,1,1,1,1] (aA Ψ).code))))) from rfl];generalize η [1,1,1,1,1] (aA Ψ).code=C at *;simp only[aA,Ψ,KP,↓reduceIte,ε,reduceCtorEq,φ,η,g0];refine aK bn ?_;rintro vm σ' ⟨rfl,im⟩;simp only[KP,↓reduceIte,ε,φ];refine aK (R2 (Z:=[]) h hle im.is) ?_;rintro vc σ' ⟨rfl,ic⟩;have im:=im.is;have ic:=ic.is;simp only[KP,↓reduceIte,ε,φ];refine aV (λi F Y=>Y=[]/\F.get 0=a/\F.get 3=vm/\F.get 4=vc/\F.get 6=.int .i64 (i:Int)/\∃o:Option Nat,F.get 5=.int .i64 (idx o)/\((o=none/\∀j,j<i->wk m n j j=false)\/∃f,o=some f/\f<n/\wk m n f f=true)) n ?_ ?_ n 0 _ _ (by omega) ⟨rfl,(fZ (by simp+decide only[GS,g0,aj]) ⟨none,(by simp+decide only[GS,oH]),.inl ⟨rfl,λj hj=>by omega⟩⟩)⟩
 ·rintro i F Y hi ⟨rfl,g0,g3,g4,g6,o,g5,ho⟩ next
  have hlt:=dR hi;have hadd:=bW i (by omega);obtain⟨u1,rv,u2,e1,e2⟩:=GU h ic hi hi;obtain⟨ri,hri⟩:∃y,rs[i]?=some y:=⟨_,AT (by omega)⟩;obtain⟨v1,p1,p2,p3,p4,e3,-⟩:=fQ h ia hri;rw[aF];cases c1:wk m n i i with
  |false=>
   simp only[KP,↓reduceIte,δ,ε,reduceCtorEq,vK h,jX h,g0,g4,g6,la,hlt,e1,e2,c1,hadd,aX d7,bS];refine next _ _ ⟨rfl,(fZ (by simp+decide only[GS,g0,g3,g4,aj]) ⟨o,(by simp+decide only[GS,g5]),ho.imp (λ⟨h1,h2⟩=>⟨h1,λj hj=>?_⟩) id⟩)⟩
   rcases cr j i with g | g
   ·exact h2 j g
   ·obtain rfl:j=i:=by omega
    exact c1
  |true=>
   rcases ho with⟨rfl,-⟩ | ⟨f,rfl,hf,hwf⟩
   ·simp only[KP,↓reduceIte,δ,ε,reduceCtorEq,dv,φ,vK h,jX h,g0,g4,g5,g6,la,hlt,e1,e2,c1,oH,hadd,aX d7,bS];exact next _ _ ⟨rfl,(fZ (by simp+decide only[GS,g0,g3,g4,aj]) ⟨some i,(by simp+decide only[GS,e_]),.inr ⟨i,rfl,hi,c1⟩⟩)⟩
   ·have c0:decide ((f:Int)<0)=false:=AS (by omega);obtain⟨rf,hrf⟩:∃y,rs[f]?=some y:=⟨_,AT (by omega)⟩;obtain⟨v2,q1,q2,q3,q4,e4,-⟩:=fQ h ia hrf;cases c3:Ax.slt ri.name rf.name with
    |true=>
     simp only[KP,↓reduceIte,δ,ε,reduceCtorEq,vK h,tI h,jX h,h.dJ,h.bO,g0,g4,g5,g6,la,hlt,e1,e2,e3,e4,c1,c0,c3,e_,hadd,aX d7,bS];exact next _ _ ⟨rfl,(fZ (by simp+decide only[GS,g0,g3,g4,aj]) ⟨some i,(by simp+decide only[GS,e_]),.inr ⟨i,rfl,hi,c1⟩⟩)⟩
    |false=>
     simp only[KP,↓reduceIte,δ,ε,reduceCtorEq,vK h,tI h,jX h,h.dJ,h.bO,g0,g4,g5,g6,la,hlt,e1,e2,e3,e4,c1,c0,c3,e_,hadd,aX d7,bS];exact next _ _ ⟨rfl,(fZ (by simp+decide only[GS,g0,g3,g4,aj]) ⟨some f,(by simp+decide only[GS,g5]),.inr ⟨f,rfl,hf,hwf⟩⟩)⟩
 ·rintro F Y ⟨rfl,g0,g3,g4,g6,o,g5,ho⟩;have hlt:=dW (bt n);rw[aF];simp only[KP,↓reduceIte,δ,ε,reduceCtorEq,g0,g6,la,hlt];refine key vm im o (λf hf=>?_) _ ?_ ?_ ?_ (λho2=>hk ?_) (λho2=>hk0 λi hi hw=>?_)
  ·rcases ho with⟨e,-⟩ | ⟨f',e,h1,h2⟩
   ·rw[e]at hf;cases hf
   ·rw[e]at hf;cases hf;exact⟨h1,CD h2⟩
  ·simp+decide only[GS,g0]
  ·simp+decide only[GS,g3]
  ·simp+decide only[GS,g5]
  ·rcases ho with⟨e,-⟩ | ⟨f',e,h1,h2⟩
   ·exact absurd e ho2
   ·exact⟨f',h1,CD h2⟩
  ·rcases ho with⟨-,h1⟩ | ⟨f',e,-⟩
   ·have:=VI hmn hw;rw[h1 i hi]at this;cases this
   ·rw[e]at ho2;cases ho2
theorem K1(h:bG E){a:V}{rs:List aD}(ha:LS dU 46 Z a rs)(hs:yO rs):aB E 112 [a] Z λv σ'=>σ'=Z/\∃l,kQ aP v l/\((l≠[]/\∃i,i<rs.length/\AxS.Way (iZ rs false) i i)\/(l=[]/\∀i,i<rs.length->¬ AxS.Way (iZ rs false) i i)):=by
 obtain⟨a',ea,ia⟩:=fI h ha;rw[aH h.abT h.Zj h.acR h.aaS (args':=[a']) (by simp only[aW,ea]),aU (by kernel_rfl)];refine UD h hs ia _ (by simp+decide only[GS]) (λhc Y w l hl ow=>?_) λhc=>?_
 ·obtain⟨v',e1,hv⟩:=pQ h.dJ rfl (λr x hr c hc=>by rw[show r=[.str x] from hr]at hc;cases hc with | head=>rfl | tail _ h=>cases h) ow
  show (match cQ Y E.ty false w with
   |some v=>(λv σ'=>σ'=Z/\∃l,kQ aP v l/\((l≠[]/\∃i,i<rs.length/\AxS.Way (iZ rs false) i i)\/(l=[]/\∀i,i<rs.length->¬ AxS.Way (iZ rs false) i i))) v Z
   |none=>False)
  rw[e1];exact⟨rfl,l,hv,.inl ⟨hl,hc⟩⟩
 ·exact⟨rfl,[],.inl ⟨rfl,rfl⟩,.inr ⟨rfl,hc⟩⟩
theorem P6{x:aD}{a b c d:V}(h1:IS aP a x.ins)(h2:IS aP b x.outs)(h3:IS aP c x.after)(h4:IS fB d x.steps):JC (.agg [.str x.name,a,b,c,d]) x:=⟨a,b,c,d,rfl,h1,h2,h3,h4⟩
theorem Bd{rs:List aD}{i:Nat}{r:aD}(hr:rs[i]?=some r)(h:bD r≠0)(hp:∀(j:Nat)(s:aD),j<i->rs[j]?=some s->bD s=0):gZ rs=bD r:=by
 have:rs.find? (λr=>decide (bD r≠0))=some r:=by
  rw[List.find?_eq_some_iff_getElem];refine⟨BY h,i,(AI.1 hr).1,(AI.1 hr).2,λj hj=>?_⟩;have hjl:j<rs.length:=by have:=(AI.1 hr).1;omega
  simpa using hp j _ hj (AT hjl)
 unfold gZ;rw[this]
theorem Ag{rs:List aD}(hp:∀(j:Nat)(s:aD),rs[j]?=some s->bD s=0):gZ rs=if 40<rs.length then 4 else if tW rs=true then 2 else if iC rs=true then 2 else 0:=by
 have:rs.find? (λr=>decide (bD r≠0))=none:=by
  rw[lj];intro x hx;obtain⟨j,hj,e⟩:=fm hx;simpa using hp j x (by rw[AT hj,e])
 unfold gZ;rw[this]
theorem X_(h:bG E){a:V}{rs:List aD}(hs:yO rs)(ia:IS dU a rs)(hp0:∀(j:Nat)(s:aD),rs[j]?=some s->bD s=0)(h40:¬ 40<rs.length)(hcl:tW rs=false)(F:FT)(g0:F.get 0=a)(hk:∀e nm,JI rs e->K (.fR [.int .i64 e,.str nm]) []):R E (η [1,1,1,1] (aA cp).code) [] ⟨110,F⟩ [] (nV E (aA cp).results K):=by
 have la:=dH h ia;have bc:=K1 (Z:=[]) h (a:=a) (ia.ls [] 46) hs;have hE:=Ag hp0;rw[an h40,an (by rw[hcl];simp)]at hE;have d27:=h.XC;simp only[aA,cp,η,ay]at d27;have d31:=h.XB;simp only[aA,cp,η,ay]at d31;rw[show η [1,1,1,1] (aA cp).code=.seq (.seq (η [1,1,1,1,0,0] (aA cp).code) (.block 6 (.loop (η [1,1,1,1,0,1,2,2] (aA cp).code)))) (η [1,1,1,1,1] (aA cp).code) from rfl]
 have key:iC rs=false->∀F:FT,F.get 0=a->R E (η [1,1,1,1,1] (aA cp).code) [] ⟨110,F⟩ [] (nV E (aA cp).results K):=λhst F g0=>by
  rw[an (by rw[hst];simp)]at hE;simp only[aA,cp,KP,↓reduceIte,ε,η,g0];refine aK bc ?_;rintro v σ' ⟨rfl,l,il,hl⟩;have il:=il.is;have ll:=bT h il;rcases hl with⟨hl,hring⟩ | ⟨rfl,hring⟩
  ·obtain⟨y,r,rfl⟩:=o5 hl;obtain⟨g,e1⟩:=g_ h il (i:=0) (x:=y) rfl;have e1:indexAddr E 24 v (.int .i64 0)=some (.cR g [.str y]):=e1;have c0:decide ((0:Int)<((r.length+1:Nat):Int))=true:=BY (by omega);simp only[KP,↓reduceIte,δ,ε,tI h,ll,c0,e1,aX d31,bS];exact hk 3 y (.inr ⟨hE,.inl ⟨hring,rfl⟩⟩)
  ·have c0:decide ((0:Int)<((([]:List bF).length:Nat):Int))=false:=rfl;simp only[KP,↓reduceIte,δ,ε,dv,lZ,ll];exact hk 0 [] (.inr ⟨hE,.inr ⟨λ⟨i,h1,h2⟩=>hring i h1 h2,rfl⟩⟩)
 generalize η [1,1,1,1,1] (aA cp).code=C at *;simp only[aA,cp,KP,↓reduceIte,ε,η];refine aV (λi F Y=>Y=[]/\F.get 0=a/\F.get 10=.int .i64 (i:Int)/\∀j s,j<i->rs[j]?=some s->∀m∈s.after,gL rs m≠none) rs.length ?_ ?_ rs.length 0 _ _ (by omega) ⟨rfl,(mJ (by simp+decide only[GS,g0,aj]) (λj s hj=>by omega))⟩
 ·rintro i F Y hi ⟨rfl,g0,g10,hp⟩ next
  obtain⟨r,hr⟩:∃y,rs[i]?=some y:=⟨_,AT hi⟩;have a3:=(hs.all r (ag hr)).after;obtain⟨g,p1,p2,p3,p4,e1,i1,i2,i3,i4⟩:=fQ h ia hr;have l3:=bT h i3;have hlt:=dR hi;have hadd:=bW i (by omega);rw[aF];simp only[KP,↓reduceIte,δ,ε,reduceCtorEq,Ms h,h.bB,h.bO,g0,g10,la,hlt,e1,l3];refine aV (λj F Y=>Y=[]/\F.get 0=a/\F.get 10=.int .i64 (i:Int)/\F.get 86=p3/\F.get 87=.int .i64 (r.after.length:Int)/\F.get 88=.int .i64 (j:Int)/\∀q m,q<j->r.after[q]?=some m->gL rs m≠none) r.after.length ?_ ?_ r.after.length 0 _ _ (by omega) ⟨rfl,(kA (by simp+decide only[GS,g0,g10,aj]) (λq m hq=>by omega))⟩
  ·rintro j F Y hj ⟨rfl,g0,g10,g86,g87,g88,hq⟩ next2;obtain⟨m,hm⟩:∃y,r.after[j]?=some y:=⟨_,AT hj⟩;obtain⟨g,e2⟩:=g_ h i3 hm;have hlt2:=dR hj;have hadd2:=bW j (by omega);have km:=Xk (Z:=[]) h (s:=m) (ia.ls _ 46) (by omega);rw[aF];cases hat:gL rs m with
   |none=>
    simp only[KP,↓reduceIte,δ,ε,reduceCtorEq,dv,φ,tI h,h.dJ,h.bO,g0,g10,g86,g87,g88,hlt2,e1,e2,km,hat,oH,aX d27,bS];refine hk 2 _ (.inl ?_)
    have hst:iC rs=true:=by
     unfold iC;rw[fh];exact⟨r,ag hr,fh.2 ⟨m,ag hm,BY hat⟩⟩
    rw[az hst]at hE;rw[hE];exact⟨by decide,rfl⟩
   |some k=>
    have c0:decide ((k:Int)<0)=false:=AS (by omega);simp only[KP,↓reduceIte,δ,ε,reduceCtorEq,tI h,g0,g86,g87,g88,hlt2,e2,km,hat,e_,c0,hadd2];refine next2 _ _ ⟨rfl,(kA (by simp+decide only[GS,g0,g10,g86,g87,aj]) (λq m' hq2 hm'=>?_))⟩;rcases cr q j with g | g
    ·exact hq q m' g hm'
    ·obtain rfl:q=j:=by omega
     rw[hm]at hm';cases hm';rw[hat];simp
  ·rintro F Y ⟨rfl,g0,g10,g86,g87,g88,hq⟩;have hlt2:=dW (bt r.after.length);rw[aF];simp only[KP,↓reduceIte,δ,ε,g10,g87,g88,hlt2,hadd];refine next _ _ ⟨rfl,(mJ (by simp+decide only[GS,g0,aj]) (λj s hj hs2 m hm=>?_))⟩
   rcases cr j i with g | g
   ·exact hp j s g hs2 m hm
   ·obtain rfl:j=i:=by omega
    rw[hr]at hs2;cases hs2;obtain⟨q,hq2,e⟩:=fm hm;exact hq q m hq2 (by rw[AT hq2,e])
 ·rintro F Y ⟨rfl,g0,g10,hp⟩;have hlt:=dW (bt rs.length);rw[aF];simp only[KP,↓reduceIte,δ,ε,reduceCtorEq,g0,g10,la,hlt];refine key ?_ _ (by simp+decide only[GS,g0]);unfold iC;rw[mj];intro s hs2;rw[fh];rintro⟨m,hm,e⟩;obtain⟨j,hj,e2⟩:=fm hs2;exact hp j s hj (by rw[AT hj,e2]) m hm (er e)
theorem Ou{rs:List aD}{i:Nat}{r:aD}(hr:rs[i]?=some r):pF rs i=(decide (∃k,gL rs r.name=some k/\k<i)||r.outs.any λo=>decide (∃k,fO rs o=some k/\k<i)):=by
 have first_lt:∀(p:aD->Bool)(rs:List aD)(i:Nat),(∃k,bR p rs=some k/\k<i) ↔ ∃q∈rs.take i,p q=true:=by
  intro p rs
  induction rs with
  |nil=>intro i;simp[bR]
  |cons r rs ih=>
   intro i;rw[bR];by_cases hp:p r=true
   ·rw[az hp];cases i with
    |zero=>simp
    |succ i=>simp[hp]
   ·rw[an hp];cases i with
    |zero=>simp
    |succ i=>
     rw[oo];simp only[IN,Option.map_eq_some_iff];constructor
     ·rintro⟨k,⟨k',h1,rfl⟩,h2⟩;obtain⟨q,hq,hpq⟩:=(ih i).1 ⟨k',h1,by omega⟩;exact⟨q,.inr hq,hpq⟩
     ·rintro⟨q,rfl | hq,hpq⟩
      ·exact absurd hpq hp
      ·obtain⟨k,h1,h2⟩:=(ih i).2 ⟨q,hq,hpq⟩;exact⟨k+1,⟨k,h1,rfl⟩,by omega⟩
 unfold pF gL fO;rw[hr];rw[ec];simp only[fh,fl,af,first_lt];constructor
 ·rintro⟨q,hq,h1 | ⟨o,ho,h2⟩⟩
  ·exact .inl ⟨q,hq,h1⟩
  ·exact .inr ⟨o,ho,q,hq,h2⟩
 ·rintro (⟨q,hq,h1⟩ | ⟨o,ho,q,hq,h2⟩)
  ·exact⟨q,hq,.inl h1⟩
  ·exact⟨q,hq,.inr ⟨o,ho,h2⟩⟩
theorem mG{α:Type}{p:α->Bool}{l:List α}{x:α}(hx:x∈l)(hp:p x=true):∃k,bR p l=some k:=by
 cases h:bR p l with
 |some k=>exact⟨k,rfl⟩
 |none=>
  have h2:(bR p l).isSome=true:=by rw[cO,fh];exact⟨x,hx,hp⟩
  rw[h]at h2;cases h2
theorem Ya(h:bG E){a:V}{rs:List aD}(hs:yO rs)(ia:IS dU a rs)(hp0:∀(j:Nat)(s:aD),rs[j]?=some s->bD s=0)(h40:¬ 40<rs.length)(F:FT)(g0:F.get 0=a)(hk:∀e nm,JI rs e->K (.fR [.int .i64 e,.str nm]) []):R E (η [1,1,1] (aA cp).code) [] ⟨110,F⟩ [] (nV E (aA cp).results K):=by
 have la:=dH h ia;have hE:=Ag hp0;have hmem:∀x∈rs,x.outs.length<=4294967296:=λx hx=>by have:=(hs.all x hx).outs;omega
 rw[an h40]at hE;have d19:=h.XD;simp only[aA,cp,η,ay]at d19;have key:=λhcl F g0=>X_ (K:=K) h hs ia hp0 h40 hcl F g0 hk;rw[show η [1,1,1] (aA cp).code=.seq (.seq (η [1,1,1,0,0] (aA cp).code) (.block 2 (.loop (η [1,1,1,0,1,2,2] (aA cp).code)))) (η [1,1,1,1] (aA cp).code) from rfl];generalize η [1,1,1,1] (aA cp).code=C at *;simp only[aA,cp,KP,↓reduceIte,ε,η];refine aV (λi F Y=>Y=[]/\F.get 0=a/\F.get 6=.int .i64 (i:Int)/\∀j,j<i->pF rs j=false) rs.length ?_ ?_ rs.length 0 _ _ (by omega) ⟨rfl,(mJ (by simp+decide only[GS,g0,aj]) (λj hj=>by omega))⟩
 ·rintro i F Y hi ⟨rfl,g0,g6,hp⟩ next
  obtain⟨r,hr⟩:∃y,rs[i]?=some y:=⟨_,AT hi⟩;have hrm:=ag hr;have a3:=(hs.all r hrm).outs;obtain⟨g,p1,p2,p3,p4,e1,i1,i2,i3,i4⟩:=fQ h ia hr;have l2:=bT h i2;have hlt:=dR hi;have hadd:=bW i (by omega);obtain⟨k1,hk1⟩:=mG (p:=λq:aD=>decide (q.name=r.name)) hrm (BY rfl);have hk1:gL rs r.name=some k1:=hk1;have km:=Xk (Z:=[]) h (s:=r.name) (ia.ls _ 46) (by omega);have hcl:=Ou hr;rw[show decide (∃k,gL rs r.name=some k/\k<i)=decide (k1<i) by rw[hk1];simp]at hcl;have hb:decide ((k1:Int)<(i:Int))=decide (k1<i):=by rw[ec,af,af];omega
  rw[aF];simp only[KP,↓reduceIte,δ,ε,reduceCtorEq,tI h,Ms h,h.dJ,h.bB,h.bO,g0,g6,la,hlt,e1,l2,km,hk1,e_,hb];refine aV (λj F Y=>Y=[]/\F.get 0=a/\F.get 6=.int .i64 (i:Int)/\F.get 55=p2/\F.get 56=.int .i64 (r.outs.length:Int)/\F.get 57=.int .i64 (j:Int)/\F.get 7=.bool (decide (k1<i)||(r.outs.take j).any λo=>decide (∃k,fO rs o=some k/\k<i))) r.outs.length ?_ ?_ r.outs.length 0 _ _ (by omega) ⟨rfl,(kA (by simp+decide only[GS,g0,g6,aj]) (by simp[FT.bX]))⟩
  ·rintro j F Y hj ⟨rfl,g0,g6,g55,g56,g57,g7⟩ next2;obtain⟨m,hm⟩:∃y,r.outs[j]?=some y:=⟨_,AT hj⟩;have hmm:=ag hm;obtain⟨g,e2⟩:=g_ h i2 hm;have hlt2:=dR hj;have hadd2:=bW j (by omega);obtain⟨k2,hk2⟩:=mG (p:=λq:aD=>decide (m∈q.outs)) hrm (BY hmm);have hk2:fO rs m=some k2:=hk2;have kk:=Mz (Z:=[]) h (s:=m) (ia.ls _ 46) hmem (by omega);have hb2:decide ((k2:Int)<(i:Int))=decide (k2<i):=by rw[ec,af,af];omega
   have hnew:=qN (p:=λo=>decide (∃k,fO rs o=some k/\k<i)) hm;rw[show decide (∃k,fO rs m=some k/\k<i)=decide (k2<i) by rw[hk2];simp]at hnew;rw[aF];cases hbad:(decide (k1<i)||(r.outs.take j).any λo=>decide (∃k,fO rs o=some k/\k<i)) with
   |true=>
    rw[hbad]at g7;simp only[KP,↓reduceIte,δ,ε,tI h,g55,g56,g57,g7,hlt2,e2,hadd2];refine next2 _ _ ⟨rfl,(kA (by simp+decide only[GS,g0,g6,g55,g56,aj]) ?_)⟩;rw[hnew,<- Bool.or_assoc,hbad];simp only[FT.bX,δ,↓reduceIte,Bool.true_or]
   |false=>
    rw[hbad]at g7;simp only[KP,↓reduceIte,δ,ε,reduceCtorEq,tI h,g0,g6,g55,g56,g57,g7,hlt2,e2,kk,hk2,e_,hb2,hadd2];refine next2 _ _ ⟨rfl,(kA (by simp+decide only[GS,g0,g6,g55,g56,aj]) ?_)⟩;rw[hnew,<- Bool.or_assoc,hbad];simp only[FT.bX,δ,↓reduceIte,Bool.false_or]
  ·rintro F Y ⟨rfl,g0,g6,g55,g56,g57,g7⟩;have hlt2:=dW (bt r.outs.length);rw[ah (OF _),<- hcl]at g7;rw[aF];cases hc:pF rs i with
   |true=>
    rw[hc]at g7;simp only[KP,↓reduceIte,δ,ε,reduceCtorEq,tI h,h.dJ,h.bO,g0,g6,g56,g57,g7,hlt2,e1,aX d19,bS];refine hk 2 _ (.inl ?_)
    have hst:tW rs=true:=by
     unfold tW;rw[fh];exact⟨i,k8.2 hi,hc⟩
    rw[az hst]at hE;rw[hE];exact⟨by decide,rfl⟩
   |false=>
    rw[hc]at g7;simp only[KP,↓reduceIte,δ,ε,g6,g56,g57,g7,hlt2,hadd];refine next _ _ ⟨rfl,(mJ (by simp+decide only[GS,g0,aj]) (λj hj=>?_))⟩
    rcases cr j i with g | g
    ·exact hp j g
    ·obtain rfl:j=i:=by omega
     exact hc
 ·rintro F Y ⟨rfl,g0,g6,hp⟩;have hlt:=dW (bt rs.length);rw[aF];simp only[KP,↓reduceIte,δ,ε,reduceCtorEq,g0,g6,la,hlt];refine key ?_ _ (by simp+decide only[GS,g0]);unfold tW;rw[mj];intro i hi;rw[hp i (k8.1 hi)];simp
theorem U9(h:bG E){a:V}{rs:List aD}(hs:yO rs)(ia:IS dU a rs)(F:FT)(g0:F.get 0=a)(hk:∀e nm,JI rs e->K (.fR [.int .i64 e,.str nm]) []):R E (aA cp).code [] ⟨110,F⟩ [] (nV E (aA cp).results K):=by
 have la:=dH h ia;have hle:=hs.len;have d6:=h.adn;simp only[aA,cp,η,ay]at d6;have key:=λhp0 h40 F g0=>Ya (K:=K) h hs ia hp0 h40 F g0 hk;rw[show (aA cp).code=.seq (η [0] (aA cp).code) (.seq (η [1,0] (aA cp).code) (.seq (η [1,1,0] (aA cp).code) (η [1,1,1] (aA cp).code))) from rfl];generalize η [1,1,1] (aA cp).code=C at *;simp only[aA,cp,KP,↓reduceIte,ε,lZ,η];refine aV (λi F Y=>Y=[]/\F.get 0=a/\F.get 4=.int .i64 (i:Int)/\∀(j:Nat)(s:aD),j<i->rs[j]?=some s->bD s=0) rs.length ?_ ?_ rs.length 0 _ _ (by omega) ⟨rfl,(mJ (by simp+decide only[GS,g0,aj]) (λj s hj=>by omega))⟩
 ·rintro i F Y hi ⟨rfl,g0,g4,hp⟩ next
  obtain⟨r,hr⟩:∃y,rs[i]?=some y:=⟨_,AT hi⟩;have hrs:=hs.all r (ag hr);obtain⟨g,p1,p2,p3,p4,e1,i1,i2,i3,i4⟩:=fQ h ia hr;have hlt:=dR hi;have hadd:=bW i (by omega);have kr:=N0 (Z:=[]) h (P6 i1 i2 i3 i4) hrs;rw[aF];by_cases he:bD r=0
  ·have c0:decide (bD r=0)=true:=BY he;simp only[KP,↓reduceIte,δ,ε,reduceCtorEq,Vn h,g0,g4,la,hlt,e1,kr,c0,hadd];refine next _ _ ⟨rfl,(mJ (by simp+decide only[GS,g0,aj]) (λj s hj hs2=>?_))⟩
   rcases cr j i with g | g
   ·exact hp j s g hs2
   ·obtain rfl:j=i:=by omega
    rw[hr]at hs2;cases hs2;exact he
  ·have c0:decide (bD r=0)=false:=AS he;simp only[KP,↓reduceIte,δ,ε,reduceCtorEq,tI h,Vn h,h.dJ,h.bO,g0,g4,la,hlt,e1,kr,c0,aX d6,bS];exact hk _ _ (.inl ⟨by rw[Bd hr he hp];exact he,(Bd hr he hp).symm⟩)
 ·rintro F Y ⟨rfl,g0,g4,hp⟩;have hlt:=dW (bt rs.length);have hp0:∀(j:Nat)(s:aD),rs[j]?=some s->bD s=0:=λj s hs2=>hp j s (AI.1 hs2).1 hs2;rw[aF];by_cases h40:40<rs.length
  ·have c0:decide ((40:Int)<(rs.length:Int))=true:=BY (by omega);simp only[KP,↓reduceIte,δ,ε,reduceCtorEq,lZ,g0,g4,la,hlt,c0];refine hk 4 _ (.inl ?_);rw[Ag hp0,az h40];exact⟨by decide,rfl⟩
  ·have c0:decide ((40:Int)<(rs.length:Int))=false:=AS (by omega);simp only[KP,↓reduceIte,δ,ε,reduceCtorEq,g0,g4,la,hlt,c0];exact key hp0 h40 _ (by simp+decide only[GS,g0])
theorem RP(h:bG E){a:V}{rs:List aD}(ha:LS dU 46 Z a rs)(hs:yO rs):aB E 46 [a] Z λv σ'=>σ'=Z/\∃e nm,v=.fR [.int .i64 e,.str nm]/\JI rs e:=by
 obtain⟨a',ea,ia⟩:=fI h ha;rw[aH h.hs46 h.sp46 h.fn46 h.md46 (args':=[a']) (by simp only[aW,ea]),aU (by kernel_rfl)];exact U9 h hs ia _ (by simp+decide only[GS]) λe nm he=>⟨rfl,e,nm,rfl,he⟩
def gK:Lay am:=⟨λr x=>∃a l,r=[.str x.out,.int .i64 x.op,a,l,.int .i64 x.n]/\kQ aP a x.args/\kQ aP l x.lits,5,λ_ _ ⟨_,_,h,_⟩=>by rw[h];rfl,λ_ _ ⟨a,l,h,h1,h2⟩ c hc=>by
 rw[h]at hc;simp only[IN,bz,ek]at hc;rcases hc with rfl | rfl | rfl | rfl | rfl
 ·rfl
 ·rfl
 ·exact h1.is.bE
 ·exact h2.is.bE
 ·rfl⟩
theorem J2:∀r x,gK.P r x->∀c∈r,cI false c=true:=λr x ⟨a,l,h,h1,h2⟩ c hc=>by
 rw[h]at hc;simp only[IN,bz,ek]at hc;rcases hc with rfl | rfl | rfl | rfl | rfl
 ·rfl
 ·rfl
 ·exact h1.tag
 ·exact h2.tag
 ·rfl
theorem Pk:∀r x,aP.P r x->∀c∈r,cI false c=true:=λr x hr c hc=>by
 rw[show r=[.str x] from hr]at hc;cases hc with
 |head=>rfl
 |tail _ h=>cases h
theorem Ap(h:bG E){v:V}{l:List bF}(iv:IS aP v l)(hl:l.length<=8796093022208):∃w Y v',rt E [] #[24,24] .aG v=some (w,Y)/\cQ Y E.ty false w=some v'/\kQ aP v' l:=by
 obtain⟨rs,e,ha⟩:=sA iv []
 have hr:pV l.length 16=true:=by
  unfold pV;rw[af];exact e8 (gk 17 hl) (by decide)
 obtain⟨w,Y,h1,h2⟩:=Se (ats:=#[24,24]) h.bB rfl h.dJ rfl (by decide) (kF h) rfl e ha hr;obtain⟨v',h3,h4⟩:=pQ h.dJ rfl Pk h2;exact⟨w,Y,v',h1,h3,h4⟩
theorem jV{c:V}(h:ge c=true):c.cells=[c]:=by cases c <;> first | rfl | cases h
theorem E3(Z:Sg):aR Z E.ty true .aG=some .aG:=rfl
theorem UI(h:bG E){x:aD}{a b c d:V}(ia:IS aP a x.ins)(ib:IS aP b x.outs)(ic:IS aP c x.after)(hx:Mid x){Y:Sg}{n0:Nat}(b0:Y[n0]?=some (ζ 46 [.str x.name,a,b,c,d] true))(F:FT)(g1:F.get 1=.ref n0 0)(g2:F.get 2=.ref (n0+1) 0) :
  ∃F' a' b' c',cP E (ev E 0) (Φ (η [1,0] (aA qq).code)) ⟨45,F⟩ Y=some (⟨45,F'⟩,Y++[ζ 46 [.str x.name,a',b',c',.aG] true])/\F'.get 1=.ref n0 0/\F'.get 2=.ref (n0+1) 0/\F'.get 3=.ref Y.length 0/\kQ aP a' x.ins/\kQ aP b' x.outs/\kQ aP c' x.after:=by
 have a1:=hx.ins;have a2:=hx.outs;have a3:=hx.after;obtain⟨w1,τ1,a',h1,k1,i1⟩:=Ap h ia (by omega);obtain⟨w2,τ2,b',h2,k2,i2⟩:=Ap h ib (by omega);obtain⟨w3,τ3,c',h3,k3,i3⟩:=Ap h ic (by omega);have s1:=λZ=>pR (E:=E) ia Z;have s2:=λZ=>pR (E:=E) ib Z;have s3:=λZ=>pR (E:=E) ic Z;have v1:=cL 10 ia;have v2:=cL 10 ib;have v3:=cL 10 ic;have u1:=cL 10 i1.is;have u2:=cL 10 i2.is;have u3:=cL 10 i3.is;have o1:=aQ i1.is.bE;have o2:=aQ i2.is.bE;have o3:=aQ i3.is.bE;have n1:=jV i1.is.bE;have n2:=jV i2.is.bE;have n3:=jV i3.is.bE;have b0':=aI (x:=ζ 46 [.str [],.aG,.aG,.aG,.aG] true) b0;have vs:=Br 11 x.name;unfold cP;rw[h.Yl,h.Z2];simp only[aA,qq,KP,ι,Ξ,↓reduceIte,δ,ε,μ,reduceCtorEq,h.dJ,h.bB,h.gA,h.bO,Φ,η,Fz.apps,iQ,bN,cE,lD,nz,pu,iM,ly,vY,aW,hZ,Ax.placeOf,g1,b0,b0',h1,h2,h3,k1,k2,k3,s1,s2,s3,v1,v2,v3,u1,u2,u3,o1,o2,o3,vs,n1,n2,n3,E3,aL,bP];exact⟨_,a',b',c',rfl,(fK (by simp+decide only[GS,g1,g2,aj]) ⟨i1,i2,i3⟩)⟩
def Kp(Z Y:Sg):Prop:=∀(c:Nat)(o:O),Z[c]?=some o->Y[c]?=some o
theorem UJ(h:bG E){x:aD}{a b c d:V}(ia:IS aP a x.ins)(ib:IS aP b x.outs)(ic:IS aP c x.after)(hx:Mid x){Y:Sg}{n0:Nat}(b0:Y[n0]?=some (ζ 46 [.str x.name,a,b,c,d] true))(F:FT)(g1:F.get 1=.ref n0 0)(g2:F.get 2=.ref (n0+1) 0){st:List iT}{Q:io->Fr->Sg->Prop}
  (hk:∀F' a' b' c',F'.get 1=.ref n0 0->F'.get 2=.ref (n0+1) 0->F'.get 3=.ref Y.length 0->kQ aP a' x.ins->kQ aP b' x.outs->kQ aP c' x.after->M E st .normal ⟨45,F'⟩ (Y++[ζ 46 [.str x.name,a',b',c',.aG] true]) Q) :
  R E (.region 1 (Φ (η [1,0] (aA qq).code)) true) st ⟨45,F⟩ Y Q:=by
 obtain⟨F',a',b',c',hE,h1,h2,h3,h4,h5,h6⟩:=UI h ia ib ic hx b0 F g1 g2;exact rl (iW hE) (hk F' a' b' c' h1 h2 h3 h4 h5 h6)
theorem vB{α:Type}{L:Lay α}{t u k:Nat}{Y:Sg}{w:V}{l:List α}{cs:List V}{ex:Bool}(hb:Y[k]?=some (.cells u cs ex))(hu:u≠t)(ow:aY L t Y w l):aO w≠some k:=by
 rcases ow with⟨rfl,-⟩ | ⟨b,rs,ex,rfl,hc,-⟩
 ·intro e;cases e
 ·intro e;cases e;rw[hb]at hc;cases hc;exact hu rfl
theorem rQ{α:Type}{L:Lay α}{t:Nat}{Y:Sg}{w:V}{l:List α}(ow:aY L t Y w l):w.cells=[w]/\w.aZ=true:=by
 rcases ow with⟨rfl,-⟩ | ⟨b,rs,ex,rfl,-⟩ <;> exact⟨rfl,rfl⟩
theorem wG{Y:Sg}{i:Nat}{x y:O}(h:Y[i]?=some y):(Y.set i x)[i]?=some x:=br (AI.1 h).1
theorem rB{Y:Sg}{i j:Nat}{x y:O}(h:Y[j]?=some y)(hij:i≠j):(Y.set i x)[j]?=some y:=by rw[aa hij];exact h
theorem UH(h:bG E){s:am}{p q:V}(ip:IS aP p s.args)(iq:IS aP q s.lits)(hp:s.args.length<=8796093022208)(hq:s.lits.length<=8796093022208){Y:Sg}(F:FT)(g5:F.get 5=.ref Y.length 0){st:List iT}{Q:io->Fr->Sg->Prop}
  (hk:∀F' p' q',(∀i,i<30->F'.get i=F.get i)->kQ aP p' s.args->kQ aP q' s.lits->M E st .normal ⟨45,F'⟩ (Y++[ζ 82 [.str s.out,.int .i64 s.op,p',q',.int .i64 s.n] true]) Q):R E (.region 6 (Φ (η [1,1,0,1,2,2,1,0,2,1,0] (aA qq).code)) true) st ⟨45,F⟩ (Y++[ζ 82 [.str s.out,.int .i64 s.op,p,q,.int .i64 s.n] true]) Q:=by
 obtain⟨w1,τ1,p',h1,k1,i1⟩:=Ap h ip (by omega);obtain⟨w2,τ2,q',h2,k2,i2⟩:=Ap h iq (by omega);have s1:=λZ=>pR (E:=E) ip Z;have s2:=λZ=>pR (E:=E) iq Z;have o1:=aQ i1.is.bE;have o2:=aQ i2.is.bE;have n1:=jV i1.is.bE;have n2:=jV i2.is.bE
 have key:∃F',cP E (ev E 0) (Φ (η [1,1,0,1,2,2,1,0,2,1,0] (aA qq).code)) ⟨45,F⟩ (Y++[ζ 82 [.str s.out,.int .i64 s.op,p,q,.int .i64 s.n] true])=some (⟨45,F'⟩,Y++[ζ 82 [.str s.out,.int .i64 s.op,p',q',.int .i64 s.n] true])/\∀i,i<30->F'.get i=F.get i:=by
  unfold cP;rw[h.Yk,h.Z1];simp only[aA,qq,KP,ι,Ξ,↓reduceIte,δ,ε,ω,μ,reduceCtorEq,h.bB,h.dF,Φ,η,Fz.apps,bN,cE,lD,nz,vY,gY,aW,g5,h1,h2,k1,k2,s1,s2,o1,o2,n1,n2,E3,aL,bP];refine⟨_,rfl,λi hi=>?_⟩;simp only[FT.bX]
  repeat rw[an (by omega)]
 obtain⟨F',hE,hF⟩:=key;exact rl (iW hE) (hk F' p' q' hF i1 i2)
theorem Sa(h:bG E){Y:Sg}{w:V}{l:List am}{s:am}{p q:V}(ow:aY gK 82 Y w l)(ip:kQ aP p s.args)(iq:kQ aP q s.lits)(hb:l.length<=1000):∃w' τ',rt E (Y++[ζ 82 [.str s.out,.int .i64 s.op,p,q,.int .i64 s.n] true]) #[44,44] w (.sl Y.length 0 1 none)=some (w',τ')/\aY gK 82 τ' w' (l++[s])/\Sp (Y++[ζ 82 [.str s.out,.int .i64 s.op,p,q,.int .i64 s.n] true]) τ' w/\Y.length<=τ'.length/\∀b,aO w'=some b->aO w=some b\/Y.length<=b:=by
 obtain⟨w',τ',h1,h2,h3,h4,h5⟩:=kB (m:=[s]) (new:=[[.str s.out,.int .i64 s.op,p,q,.int .i64 s.n]]) h.gA rfl h.dF rfl (by decide) (BE h) rfl (ow.app [ζ 82 [.str s.out,.int .i64 s.op,p,q,.int .i64 s.n] true]) (mI rfl) (.one ⟨p,q,rfl,ip,iq⟩) (dO (b:=1001) (by decide) (by simp only[IT,aq];omega));refine⟨w',τ',h1,h2,h3,?_,λb e=>?_⟩
 ·simp only[By,IT,aq]at h4;omega
 ·rcases h5 b e with g | g
  ·exact .inl g
  ·simp only[By,IT,aq]at g;exact .inr (by omega)
def adD(Y:Sg)(lo:Nat)(v:V)(x:aD):Prop:=∃a b c w,v=.agg [.str x.name,a,b,c,w]/\kQ aP a x.ins/\kQ aP b x.outs/\kQ aP c x.after/\aY gK 82 Y w x.steps/\∀b,aO w=some b->lo<=b
theorem X7(h:bG E){v:V}{x:aD}(hv:JC v x)(hx:Mid x):aB E 74 [v] Z λv' Y=>adD Y Z.length v' x/\Kp Z Y:=by
 obtain⟨a,b,c,d,rfl,ia,ib,ic,id⟩:=hv;have a4:=hx.steps;have ha:=aQ ia.bE;have hb:=aQ ib.bE;have hc:=aQ ic.bE;have hd:=aQ id.bE;have ld:=mE h id;rw[cJ h.hs74 h.sp74 h.fn74 h.md74,aU (by kernel_rfl)];simp only[aA,qq,KP,↓reduceIte,ε,μ,h.bO,ha,hb,hc,hd];have hlen:(Z++[ζ 46 [.str x.name,a,b,c,d] true]).length=Z.length+1:=by simp
 have b0:(Z++[ζ 46 [.str x.name,a,b,c,d] true]++[ζ 46 [.str [],.aG,.aG,.aG,.aG] true])[Z.length]?=some (ζ 46 [.str x.name,a,b,c,d] true):=aI aL;have z0:(Z++[ζ 46 [.str x.name,a,b,c,d] true]++[ζ 46 [.str [],.aG,.aG,.aG,.aG] true])[Z.length+1]?=some (ζ 46 [.str [],.aG,.aG,.aG,.aG] true):=by rw[<- hlen];exact aL
 have kp:Kp Z (Z++[ζ 46 [.str x.name,a,b,c,d] true]++[ζ 46 [.str [],.aG,.aG,.aG,.aG] true]):=λc o e=>aI (aI e);have hl2:(Z++[ζ 46 [.str x.name,a,b,c,d] true]++[ζ 46 [.str [],.aG,.aG,.aG,.aG] true]).length=Z.length+2:=by simp
 simp only[hlen];generalize Z++[ζ 46 [.str x.name,a,b,c,d] true]++[ζ 46 [.str [],.aG,.aG,.aG,.aG] true]=Y at *;refine UJ h ia ib ic hx b0 _ ?_ ?_ ?_
 ·simp+decide only[GS]
 ·simp+decide only[GS]
 intro F1 a' b' c' g1 g2 g3 i1 i2 i3;simp only[KP,↓reduceIte,ε];have b1:=aI (x:=ζ 46 [.str x.name,a',b',c',.aG] true) b0;have z1:=aI (x:=ζ 46 [.str x.name,a',b',c',.aG] true) z0;have kp1:Kp Z (Y++[ζ 46 [.str x.name,a',b',c',.aG] true]):=λc o e=>aI (kp c o e);have x1:(Y++[ζ 46 [.str x.name,a',b',c',.aG] true])[Y.length]?=some (ζ 46 [.str x.name,a',b',c',.aG] true):=aL;rw[hl2]at x1 g3;generalize Y++[ζ 46 [.str x.name,a',b',c',.aG] true]=Y at *;refine aV (λi F Y=>Y[Z.length]?=some (ζ 46 [.str x.name,a,b,c,d] true)/\Y[Z.length+1]?=some (ζ 46 [.str [],.aG,.aG,.aG,.aG] true)/\Kp Z Y/\F.get 1=.ref Z.length 0/\F.get 2=.ref (Z.length+1) 0/\F.get 3=.ref (Z.length+2) 0/\F.get 4=.int .i64 (i:Int)/\∃w,Y[Z.length+2]?=some (ζ 46 [.str x.name,a',b',c',w] true)/\aY gK 82 Y w (x.steps.take i)/\∀b,aO w=some b->Z.length<=b) x.steps.length ?_ ?_ x.steps.length 0 _ _ (by omega) ⟨b1,z1,kp1,(fZ (by simp+decide only[GS,g1,g2,g3,aj]) ⟨.aG,x1,.inl ⟨rfl,rfl⟩,λb e=>by cases e⟩)⟩
 ·rintro i F Y hi ⟨b0,z0,kp,g1,g2,g3,g4,w,x0,ow,hw⟩ next
  obtain⟨s,hst⟩:∃y,x.steps[i]?=some y:=⟨_,AT hi⟩;have hmem:=ag hst;have a5:=hx.args s hmem;have a6:=hx.lits s hmem;obtain⟨g,p,q,e1,ip,iq⟩:=wT h id hst;have hop:=aQ ip.bE;have hoq:=aQ iq.bE;have hlt:=dR hi;have hadd:=bW i (by omega);rw[aF];simp only[KP,ι,Ξ,↓reduceIte,δ,ε,μ,reduceCtorEq,h.gA,h.bO,h.dF,g1,g4,b0,ld,hlt,e1,hop,hoq,aL,bP];refine UH h ip iq (by omega) (by omega) _ ?_ ?_
  ·simp+decide only[GS]
  intro F2 p' q' hF ip' iq';have k1:F2.get 1=.ref Z.length 0:=by rw[hF 1 (by omega)];exact(by simp+decide only[GS,g1])
  have k2:F2.get 2=.ref (Z.length+1) 0:=by rw[hF 2 (by omega)];exact(by simp+decide only[GS,g2])
  have k3:F2.get 3=.ref (Z.length+2) 0:=by rw[hF 3 (by omega)];exact(by simp+decide only[GS,g3])
  have k4:F2.get 4=.int .i64 (i:Int):=by rw[hF 4 (by omega)];exact(by simp+decide only[GS,g4])
  have k5:F2.get 5=.ref Y.length 0:=by rw[hF 5 (by omega)];exact(by simp+decide only[GS])
  have hop':=aQ ip'.is.bE;have hoq':=aQ iq'.is.bE;have b1:=aI (x:=ζ 82 [.str s.out,.int .i64 s.op,p',q',.int .i64 s.n] true) b0;have z1:=aI (x:=ζ 82 [.str s.out,.int .i64 s.op,p',q',.int .i64 s.n] true) z0;have x1:=aI (x:=ζ 82 [.str s.out,.int .i64 s.op,p',q',.int .i64 s.n] true) x0;have s1:(Y++[ζ 82 [.str s.out,.int .i64 s.op,p',q',.int .i64 s.n] true])[Y.length]?=some (ζ 82 [.str s.out,.int .i64 s.op,p',q',.int .i64 s.n] true):=aL;have ow1:=ow.app [ζ 82 [.str s.out,.int .i64 s.op,p',q',.int .i64 s.n] true];have kp1:Kp Z (Y++[ζ 82 [.str s.out,.int .i64 s.op,p',q',.int .i64 s.n] true]):=λc o e=>aI (kp c o e)
  have hle:Z.length<=(Y++[ζ 82 [.str s.out,.int .i64 s.op,p',q',.int .i64 s.n] true]).length:=by
   have:=(AI.1 b1).1;omega
  generalize Y++[ζ 82 [.str s.out,.int .i64 s.op,p',q',.int .i64 s.n] true]=τ2 at *;generalize Y.length=y at *;obtain⟨w',τ3,ha3,ow3,Ss,hl3,hb3⟩:=Sa (s:=s) h ow1 ip' iq' (by rw[bl];omega);have x3:=Ss _ _ (aI x1) (vB x1 (by decide) ow1);have b3:=Ss _ _ (aI b1) (vB b1 (by decide) ow1);have z3:=Ss _ _ (aI z1) (vB z1 (by decide) ow1)
  have kp3:Kp Z τ3:=λc o e=>Ss _ _ (aI (kp1 c o e)) (λe2=>by
   have:=hw c e2;have:=(AI.1 e).1;omega)
  obtain⟨hc1,hc2⟩:=rQ ow3;simp only[KP,ι,Ξ,↓reduceIte,δ,ε,ω,μ,ap,reduceCtorEq,h.gA,h.bO,h.dF,k3,k4,k5,x1,x3,s1,ha3,hadd,hc1,hc2,hop',hoq',hZ,gG,gz];refine next _ _ ⟨rB b3 (by omega),rB z3 (by omega),λc o e=>rB (kp3 c o e) (by have:=(AI.1 e).1;omega),(fZ (by simp+decide only[GS,k1,k2,k3,aj]) ⟨w',wG x3,?_,λb e=>?_⟩)⟩
  ·have e:x.steps.take (i+1)=x.steps.take i++[s]:=by rw[dz,hst];rfl
   rw[e];refine ow3.keep λc o hc ho=>rB ho ?_;intro e2;rw[<- e2]at hc;exact vB x3 (by decide) ow3 hc
  ·rcases hb3 b e with g | g
   ·exact hw b g
   ·omega
 ·rintro F Y ⟨b0,z0,kp,g1,g2,g3,g4,w,x0,ow,hw⟩;have hlt:=dW (bt x.steps.length);obtain⟨hc1,hc2⟩:=rQ ow;have o1:=aQ i1.is.bE;have o2:=aQ i2.is.bE;have o3:=aQ i3.is.bE;have zz:=wG (x:=ζ 46 [.str x.name,a',b',c',w] true) z0;rw[ah (OF _)]at ow;rw[aF];simp only[KP,ι,Ξ,↓reduceIte,δ,ε,μ,reduceCtorEq,h.gA,h.bO,g1,g2,g3,g4,b0,x0,z0,zz,ld,hlt,hc2,o1,o2,o3];refine⟨⟨a',b',c',w,rfl,i1,i2,i3,ow.keep λc o hc ho=>rB ho ?_,hw⟩,λc o e=>rB (kp c o e) (by have:=(AI.1 e).1;omega)⟩;intro e2;rw[<- e2]at hc;exact vB z0 (by decide) ow hc
theorem FA(n k:Nat):iN false .i64 (n:Int) [.int .i64 (k:Int)]=some ((min n k:Nat):Int):=by
 rw[min2];by_cases g:(k:Int)<(n:Int)
 ·rw[az g,Nat.min_eq_right (by omega)]
 ·rw[an g,mq (by omega)]
theorem yX{α:Type}(l:List α)(k:Nat):l.take (min l.length k)=l.take k:=by
 rw[List.take_eq_take_iff];omega
theorem D8(h:bG E){v:V}{l:List bF}(iv:IS aP v l)(k:Nat):∃w,(∀Z,Ax.slice E Z 24 v none (some (.int .i64 ((min l.length k:Nat):Int))) none=some w)/\IS aP w (l.take k):=by
 obtain⟨w,h1,h2⟩:=xV h iv (b:=min l.length k) (Nat.min_le_left _ _);exact⟨w,h1,by rwa [yX]at h2⟩
theorem F7(h:bG E){v:V}{l:List bF}(iv:kQ aP v l)(k:Nat):∃w,(∀Z,Ax.slice E Z 24 v none (some (.int .i64 ((min l.length k:Nat):Int))) none=some w)/\kQ aP w (l.take k):=by
 obtain⟨w,h1,-,h2⟩:=C3 (lo:=none) (hi:=some (.int .i64 ((min l.length k:Nat):Int))) (a:=0) (b:=min l.length k) h.bB rfl h.dJ rfl iv.is (.inr rfl) (.inl ⟨rfl,rfl⟩) (gv _) (Nat.min_le_left _ _);refine⟨w,h1,?_⟩;have:=h2 iv;rw[ez,yX]at this;exact this
theorem Ol(h:bG E){v:V}{l:List am}(iv:IS fB v l)(k:Nat):∃w,(∀Z,Ax.slice E Z 44 v none (some (.int .i64 ((min l.length k:Nat):Int))) none=some w)/\IS fB w (l.take k):=by
 obtain⟨w,h1,h2,-⟩:=C3 (lo:=none) (hi:=some (.int .i64 ((min l.length k:Nat):Int))) (a:=0) (b:=min l.length k) h.gA rfl h.dF rfl iv (.inr rfl) (.inl ⟨rfl,rfl⟩) (gv _) (Nat.min_le_left _ _);refine⟨w,h1,?_⟩;rw[ez,yX]at h2;exact h2
def sE(x:aD):aD:={ x with ins:=x.ins.take 10,outs:=x.outs.take 6,after:=x.after.take 10,steps:=x.steps.take 14 }
def Cf(s:am):am:={ s with args:=s.args.take 8,lits:=s.lits.take 3 }
def cut(x:aD):aD:={ sE x with steps:=(x.steps.take 14).map Cf }
theorem Om(x:aD):Small (cut x):=by
 refine⟨?_,?_,?_,?_,λs hs=>?_,λs hs=>?_⟩
 ·show (x.ins.take 10).length<=10;rw[bl];omega
 ·show (x.outs.take 6).length<=6;rw[bl];omega
 ·show (x.after.take 10).length<=10;rw[bl];omega
 ·show ((x.steps.take 14).map Cf).length<=14;rw[bw,bl];omega
 ·obtain⟨q,_,rfl⟩:=cv.1 hs;show (q.args.take 8).length<=8;rw[bl];omega
 ·obtain⟨q,_,rfl⟩:=cv.1 hs;show (q.lits.take 3).length<=3;rw[bl];omega
structure Raw (x:aD):Prop where
 args:∀s∈x.steps,s.args.length<=8796093022208
 lits:∀s∈x.steps,s.lits.length<=8796093022208
theorem Raw.mid{x:aD}(h:Raw x):Mid (sE x):=by
 refine⟨?_,?_,?_,?_,λs hs=>h.args s (jo hs),λs hs=>h.lits s (jo hs)⟩
 ·show (x.ins.take 10).length<=10;rw[bl];omega
 ·show (x.outs.take 6).length<=6;rw[bl];omega
 ·show (x.after.take 10).length<=10;rw[bl];omega
 ·show (x.steps.take 14).length<=14;rw[bl];omega
theorem QE(h:bG E){x:aD}{a b c d:V}(ia:IS aP a x.ins)(ib:IS aP b x.outs)(ic:IS aP c x.after)(id:IS fB d x.steps)(F:FT)(g1:F.get 1=.ref 0 0)(g2:F.get 2=.ref 1 0){st:List iT}{Q:io->Fr->Sg->Prop}
  (hk:∀F' a' b' c' d',F'.get 1=.ref 0 0->F'.get 2=.ref 1 0->F'.get 3=.ref 2 0->IS aP a' (x.ins.take 10)->IS aP b' (x.outs.take 6)->IS aP c' (x.after.take 10)->IS fB d' (x.steps.take 14) ->
   M E st .normal ⟨86,F'⟩ [ζ 46 [.str x.name,a,b,c,d] true,ζ 46 [.str [],.aG,.aG,.aG,.aG] true,ζ 46 [.str x.name,a',b',c',d'] true] Q) :
  R E (.region 1 (Φ (η [1,0] (aA m7).code)) true) st ⟨86,F⟩ [ζ 46 [.str x.name,a,b,c,d] true,ζ 46 [.str [],.aG,.aG,.aG,.aG] true] Q:=by
 obtain⟨a',sa,ia'⟩:=D8 h ia 10;obtain⟨b',sb,ib'⟩:=D8 h ib 6;obtain⟨c',sc,ic'⟩:=D8 h ic 10;obtain⟨d',sd,id'⟩:=Ol h id 14;have la:=bT h ia;have lb:=bT h ib;have lc:=bT h ic;have ld:=mE h id;have m1:=FA x.ins.length 10;have m2:=FA x.outs.length 6;have m3:=FA x.after.length 10;have m4:=FA x.steps.length 14;have o1:=aQ ia'.bE;have o2:=aQ ib'.bE;have o3:=aQ ic'.bE;have o4:=aQ id'.bE;have n1:=jV ia'.bE;have n2:=jV ib'.bE;have n3:=jV ic'.bE;have n4:=jV id'.bE;have v1:=cL 10 ia;have v2:=cL 10 ib;have v3:=cL 10 ic;have v4:=pJ 9 id;have u1:=cL 10 ia';have u2:=cL 10 ib';have u3:=cL 10 ic';have u4:=pJ 9 id';have vs:=Br 11 x.name;have vi:=λk i=>Lq 11 k i;have m1:iN false .i64 (x.ins.length:Int) [.int .i64 10]=some ((min x.ins.length 10:Nat):Int):=m1;have m2:iN false .i64 (x.outs.length:Int) [.int .i64 6]=some ((min x.outs.length 6:Nat):Int):=m2;have m3:iN false .i64 (x.after.length:Int) [.int .i64 10]=some ((min x.after.length 10:Nat):Int):=m3;have m4:iN false .i64 (x.steps.length:Int) [.int .i64 14]=some ((min x.steps.length 14:Nat):Int):=m4
 have key:∃F',cP E (ev E 0) (Φ (η [1,0] (aA m7).code)) ⟨86,F⟩ [ζ 46 [.str x.name,a,b,c,d] true,ζ 46 [.str [],.aG,.aG,.aG,.aG] true]=some (⟨86,F'⟩,[ζ 46 [.str x.name,a,b,c,d] true,ζ 46 [.str [],.aG,.aG,.aG,.aG] true,ζ 46 [.str x.name,a',b',c',d'] true])/\F'.get 1=.ref 0 0/\F'.get 2=.ref 1 0/\F'.get 3=.ref 2 0:=by
  unfold cP;rw[h.VF,h.WI];simp only[aA,m7,KP,ι,Ξ,↓reduceIte,δ,ε,μ,reduceCtorEq,h.dJ,h.bB,h.gA,h.bO,Φ,η,iQ,bN,cE,lD,nz,pu,iM,ly,aT,hZ,Ax.placeOf,g1,la,lb,lc,ld,sa,sb,sc,sd,m1,m2,m3,m4,o1,o2,o3,o4,n1,n2,n3,n4,v1,v2,v3,v4,u1,u2,u3,u4,vs,vi];exact⟨_,rfl,(by simp+decide only[GS,g1,g2,aj])⟩
 obtain⟨F',hE,k1,k2,k3⟩:=key;exact rl (iW hE) (hk F' a' b' c' d' k1 k2 k3 ia' ib' ic' id')
theorem qJ{sz:Nat}:∀(rs:List (List V)),(∀r∈rs,r.length=sz)->∀(i:Nat)(r:List V),rs[i]?=some r->∀k,k<sz->rs.flatten[i*sz+k]?=r[k]?
 | [],_,i,r,e,_,_=>by cases e
 |x::rs,h,0,r,e,k,hk=>by
  cases e;have hr:=h x (No ..);rw[dn,gz,dc,au (by omega)]
 |x::rs,h,i+1,r,e,k,hk=>by
  have hr:=h x (No ..);rw[dn,bg (by rw[jg];omega),show (i+1)*sz+k-x.length=i*sz+k by rw[jg];omega];exact qJ rs (λy hy=>h y (ae _ hy)) i r e k hk
theorem PX{sz:Nat}{rs:List (List V)}(h:∀r∈rs,r.length=sz){i:Nat}{r:List V}(e:rs[i]?=some r){k:Nat}(hk:k<sz)(u:V):ac rs.flatten (i*sz+k) [u]=(rs.set i (r.set k u)).flatten:=by
 have hil:=(AI.1 e).1;have hrl:r.length=sz:=h r (ag e);have hfl:rs.flatten.length=rs.length*sz:=oI rs h;have him:(i+1)*sz<=rs.length*sz:=gk _ hil;rw[jg]at him;rw[<- C4 rs i (r.set k u) h (by rw[dy];exact hrl) hil];apply jw;intro q;unfold ac;have l1:(rs.flatten.take (i*sz+k)).length=i*sz+k:=by rw[bl];omega
 have l2:(rs.flatten.take (i*sz)).length=i*sz:=by rw[bl];omega
 rw[cw,cw,dj,dy,hrl];rcases jn q (i*sz+k) with hq | rfl | hq
 ·rw[au (by omega),ik,az hq];by_cases g:q<i*sz
  ·rw[au (by omega),ik,az g]
  ·rw[bg (by omega),l2,au (by rw[dy];omega),aa (by omega)];obtain⟨d,rfl⟩:∃d,q=i*sz+d:=⟨q-i*sz,by omega⟩;rw[mm];exact qJ rs h i r e d (by omega)
 ·have e0:([u]++rs.flatten.drop (i*sz+k+1))[0]?=some u:=rfl;rw[bg (by omega),l1,j9,e0,bg (by omega),l2,mm,au (by rw[dy];omega),br (by omega)]
 ·rw[bg (by omega),l1,bg (by rw[dj];omega),dj,jf,show i*sz+k+1+(q-(i*sz+k)-1)=q by omega];rw[bg (by omega),l2];by_cases g:q-i*sz<sz
  ·rw[au (by rw[dy];omega),aa (by omega)];obtain⟨d,rfl⟩:∃d,q=i*sz+d:=⟨q-i*sz,by omega⟩;rw[mm];exact qJ rs h i r e d (by omega)
  ·rw[bg (by rw[dy];omega),dy,hrl,jf,show i*sz+sz+(q-i*sz-sz)=q by omega]
end
end
end Go.Proofs.YtmbikbgdbbcbmaaGreatDoor
namespace Go.Proofs.YtmbikbgdbbcbmaaGreatDoor
open Go Go.Ax Go.AxS Go.ChangeShapes Go.WideShapes Go.ChangeAt Go.RowKit
section
theorem Al(s:ByteArray):(fY s).length=s.size:=by
 unfold fY;rw[bw];rfl
section
variable {W:Γ}{I:Bool->Nat->Prop}{blk:Nat}
theorem RI{r:List V}{cs:List ο}:∀{off:Nat},Ci W I r cs->(∀j,j<cs.length->W.cell? ⟨blk,off+j,none⟩=cs[j]?)->dS W I r blk off:=by
 induction r generalizing cs with
 |nil=>intro off h hc;exact .nil
 |cons v r ih=>
  intro off h hc;cases h with
  |cons _ x _ xs hv hr=>
   have h0:=hc 0 (by simp);refine .cons v x r (by simpa using h0) hv (ih hr λj hj=>?_);have:=hc (j+1) (by simpa using hj);rw[show off+1+j=off+(j+1) by omega,this];rfl
theorem L1{sz off:Nat}{R:Nat->List V}{C:Nat->List ο}:∀(n k:Nat),(∀i,k<=i->i<k+n->(R i).length=sz/\(C i).length=sz/\Ci W I (R i) (C i)/\∀j,j<sz->W.cell? ⟨blk,off+i*sz+j,none⟩=(C i)[j]?) ->
  eK W I sz ((r8 k n).map R) blk (off+k*sz)
 |0,k,_=>.nil
 |n+1,k,h=>by
  rw[List.range'_succ,bj];obtain⟨h1,h2,h3,h4⟩:=h k (OF _) (by omega);refine .cons _ _ h1 (RI h3 λj hj=>h4 j (by omega)) ?_;have:=L1 (off:=off) n (k+1) λi hi hn=>h i (by omega) (by omega);rw[show off+(k+1)*sz=off+k*sz+sz by rw[jg];omega]at this;exact this
end
def Reads(W:Γ)(t n:Nat)(Q:List V->Prop):Prop:=∀{H:Type} (enc:TypeId × ο->H) (fuel:Nat) (cs:List ο) (d:DataW H) (p:List MemPlace),DataW.trod enc κ W 0 (λ_=>true) true fuel t cs=some (d,p)->(fd κ t d).all (· <= reachBytes)=true->cs.length=n/\∃r:List V,r.length=n/\Q r/\Ci W (xE W).bE r cs
theorem Reads.mono{W:Γ}{t n:Nat}{Q Q':List V->Prop}(h:Reads W t n Q)(k:∀r,Q r->Q' r):Reads W t n Q':=λenc fuel cs d p h1 h2=>by
 obtain⟨a,r,b,c,e⟩:=h enc fuel cs d p h1 h2;exact⟨a,r,b,k r c,e⟩
def GD(s:bF):Prop:=s.length<=9223372036854775806
theorem AO(W:Γ):Reads W 9 1 λr=>∃s,r=[.str s]/\GD s:=λenc fuel cs d p h hw=>by
 obtain⟨s,rfl,hx,hl⟩:=DataW.trod_string aE h;refine⟨rfl,[.str (fY s)],rfl,⟨_,rfl,?_⟩,.cons _ _ _ _ (.str _) .nil⟩;unfold GD;rw[Al];rw[show d=.lit (.string s.data.toList) from b8 be hx,fd]at hw;simp only[iy,ki,me,af]at hw;have e:reachBytes=140737488351232:=by decide
 have e1:s.size=s.data.toList.length:=rfl;omega
theorem Fh(W:Γ):Reads W 3 1 λr=>∃n:Int,r=[.int .i64 n]:=λenc fuel cs d p h hw=>by
 obtain⟨n,rfl,hx,-⟩:=DataW.trod_int Tryz.underlying3 h;exact⟨rfl,[.int .i64 n],rfl,⟨n,rfl⟩,.cons _ _ _ _ (.int _ _) .nil⟩
theorem vJ{H:Type}{e w:Nat}{d:DataW H}:∀{l:List (DataW H)},d∈l->w∈fd κ e d->w∈DataW.weightsAll κ e l
 |x::l,hd,hw=>by
  rw[DataW.weightsAll,cq];rcases IN.1 hd with rfl | hd
  ·exact .inl hw
  ·exact .inr (vJ hd hw)
theorem uY{W:Γ}{α:Type}[Inhabited α]{L:Lay α}{B:α->Prop}{t e n bb:Nat}(ht:Tryz.prog.underlying t=some (.slice e))(ce:Tryz.prog.cellsOf e=n)(hb:Tryz.prog.bytesOf e=bb)(hn:0<n)(he:Reads W e n λr=>∃x,L.P r x/\B x) :
  Reads W t 1 λr=>∃v l,r=[v]/\IS L v l/\(∀x∈l,B x)/\l.length*bb<=reachBytes:=λ{H} enc fuel cs d p h hw=>by
 rcases Go.Deep.open_slice ht h with⟨rfl,hx⟩ | ⟨a,len,cap,m,k,D,Pl,rfl,hbase,hlc,hcm,hm,hx,hel⟩
 ·exact⟨rfl,[.aG],rfl,⟨.aG,[],rfl,.inl ⟨rfl,rfl⟩,λx hx=>(by cases hx),by simp⟩,.cons _ _ _ _ .aG .nil⟩
 ·have hm:m=cap:=by rw[hm];rfl
  subst hm;have hd:d=_:=b8 be hx;dsimp only at hd
  have hwl:len*bb<=reachBytes/\∀i,i<len->(fd κ e (D i)).all (· <= reachBytes)=true:=by
   rw[hd]at hw;unfold fd at hw;rw[ht]at hw;simp only[iy,lg,ak,eu,af,bw,qd]at hw;refine⟨?_,λi hi=>?_⟩
   ·have h1:=hw.1;rw[hb]at h1;refine e8 (gk _ (by omega)) h1
   ·rw[eu];intro w hwi;rw[af];exact hw.2.1 w (vJ (cv.2 ⟨i,k8.2 hi,rfl⟩) hwi)
  by_cases hc:m=0
  ·subst hc;obtain rfl:len=0:=by omega
   exact⟨rfl,[.bV true [] false],rfl,⟨_,[],rfl,.inr ⟨true,[],false,rfl,.nil⟩,λx hx=>(by cases hx),by simp⟩,.cons _ _ _ _ (.emp _ _ a) .nil⟩
  ·obtain⟨cs0,h0,-⟩:=hel 0 (by omega);obtain⟨-,hl0,hc0⟩:=World.cells?_some h0;rw[ce]at hl0 hc0;have hcell:=hc0 0 hn;obtain⟨blk,off,sp⟩:=a;have hadd:((⟨blk,off,sp⟩:Addr).add (0*n)).add 0=⟨blk,off,sp⟩:=by rw[gz];rfl
   rw[hadd]at hcell;have hsome:∃v,W.cell? ⟨blk,off,sp⟩=some v:=⟨_,hcell.trans (AT (by omega))⟩;obtain⟨v0,hv0⟩:=hsome
   have hsp:sp=none/\blk<W.heap.size:=by
    unfold World.cell? at hv0;split at hv0
    ·rename_i c u f hblk;refine⟨?_,(cg.1 hblk).1⟩;cases sp with
     |none=>rfl
     |some q=>simp at hv0
    ·cases hv0
   obtain⟨rfl,hlt⟩:=hsp
   have each:∀i,i<len->∃q:List V × List ο × α,q.1.length=n/\q.2.1.length=n/\L.P q.1 q.2.2/\B q.2.2/\Ci W (xE W).bE q.1 q.2.1/\∀j,j<n->W.cell? ⟨blk,off+i*n+j,none⟩=q.2.1[j]?:=λi hi=>by
    obtain⟨cs',h1,h2⟩:=hel i (by omega);obtain⟨h3,r,h4,⟨x,h5,h5'⟩,h6⟩:=he enc k cs' (D i) (Pl i) h2 (hwl.2 i hi);obtain⟨-,hl1,hc1⟩:=World.cells?_some h1;rw[ce]at hc1;refine⟨(r,cs',x),h4,h3,h5,h5',h6,λj hj=>?_⟩;have:=hc1 j hj
    have ea:((⟨blk,off,none⟩:Addr).add (i*n)).add j=⟨blk,off+i*n+j,none⟩:=by
     rw[Go.Deep.add_add];unfold Addr.add;split
     ·rename_i h0;rw[show off+i*n+j=off by omega]
     ·rw[qm]
    rw[ea]at this;exact this
   obtain⟨q,hq⟩:=Go.Deep.choose_lt each;refine⟨rfl,[.bV true ((r8 0 len).map λi=>(q i).1) false],rfl,⟨_,(r8 0 len).map λi=>(q i).2.2,rfl,.inr ⟨true,_,false,rfl,?_⟩,λx hx=>?_,by simpa using hwl.1⟩,.cons _ _ _ _ (.bV true _ false blk off len m n (SJ W blk hlt) (by simp) hlc (λh=>by cases h) ?_) .nil⟩
   ·have hall:∀(c k:Nat),(∀i,k<=i->i<k+c->L.P (q i).1 (q i).2.2)->eL L.P ((r8 k c).map λi=>(q i).1) ((r8 k c).map λi=>(q i).2.2):=by
     intro c
     induction c with
     |zero=>intro k _;exact .nil
     |succ c ih=>
      intro k hk;rw[List.range'_succ,bj,bj];exact .cons (hk k (OF _) (by omega)) (ih (k+1) λi h1 h2=>hk i (by omega) (by omega))
    exact hall len 0 λi _ hi=>(hq i (by omega)).2.2.1
   ·obtain⟨i,hi,rfl⟩:=cv.1 hx;rw[List.mem_range'_1]at hi;exact(hq i (by omega)).2.2.2.1
   ·have:=L1 (W:=W) (I:=Ax.sub true (xE W).bE) (blk:=blk) (off:=off) (sz:=n) (R:=λi=>(q i).1) (C:=λi=>(q i).2.1) len 0 λi _ hi=>⟨(hq i (by omega)).1,(hq i (by omega)).2.1,(hq i (by omega)).2.2.2.2.1,(hq i (by omega)).2.2.2.2.2⟩;rw[gz,l6]at this;exact this
theorem tL{W:Γ}{I:Bool->Nat->Prop}{a:List V}{x:List ο}(h:Ci W I a x){b:List V}{y:List ο}(k:Ci W I b y):Ci W I (a++b) (x++y):=by
 induction a generalizing x with
 |nil=>cases h;exact k
 |cons v a ih=>cases h with | cons _ z _ zs hv hr=>exact .cons _ _ _ _ hv (ih hr)
theorem KQ{β:Type}{l:List β}(h:l.length=5):∃a b c d e,l=[a,b,c,d,e]:=by
 match l,h with
 | [a,b,c,d,e],_=>exact⟨a,b,c,d,e,rfl⟩
theorem one{β:Type}{l:List β}(h:l.length=1):∃a,l=[a]:=by
 match l,h with
 | [a],_=>exact⟨a,rfl⟩
theorem Db{W:Γ}{t:Nat}{f0 f1 f2 f3 f4:Field}{Q0 Q1 Q2 Q3 Q4:List V->Prop}(ht:Tryz.prog.underlying t=some (.struct #[f0,f1,f2,f3,f4]))(ct:Tryz.prog.cellsOf t=5)(o0:f0.offset=0)(o1:f1.offset=1)(o2:f2.offset=2)(o3:f3.offset=3)(o4:f4.offset=4)
  (c0:Tryz.prog.cellsOf f0.type=1)(c1:Tryz.prog.cellsOf f1.type=1)(c2:Tryz.prog.cellsOf f2.type=1)(c3:Tryz.prog.cellsOf f3.type=1)(c4:Tryz.prog.cellsOf f4.type=1)
  (h0:Reads W f0.type 1 Q0)(h1:Reads W f1.type 1 Q1)(h2:Reads W f2.type 1 Q2)(h3:Reads W f3.type 1 Q3)(h4:Reads W f4.type 1 Q4) :
  Reads W t 5 λr=>∃a b c d e,r=[a,b,c,d,e]/\Q0 [a]/\Q1 [b]/\Q2 [c]/\Q3 [d]/\Q4 [e]:=λ{H} enc fuel cs d p h hw=>by
 obtain⟨xs,k,-,hx,hl,hxl,hf⟩:=DataW.trod_struct ht h;rw[ct]at hl;obtain⟨v0,v1,v2,v3,v4,rfl⟩:=KQ hl;have hxl:xs.length=5:=hxl;obtain⟨y0,y1,y2,y3,y4,rfl⟩:=KQ hxl;have hd:d=_:=b8 be hx;dsimp only at hd;rw[hd]at hw;unfold fd at hw;rw[ht]at hw;simp only[bj,map_nil,ie,lg,ak]at hw;obtain⟨w0,w1,w2,w3,w4,-⟩:=hw;have g0:=hf 0 f0 rfl;have g1:=hf 1 f1 rfl;have g2:=hf 2 f2 rfl;have g3:=hf 3 f3 rfl;have g4:=hf 4 f4 rfl;rw[o0,c0]at g0;rw[o1,c1]at g1;rw[o2,c2]at g2;rw[o3,c3]at g3;rw[o4,c4]at g4;obtain⟨-,r0,l0,q0,i0⟩:=h0 enc k [v0] y0.1 y0.2 g0 w0;obtain⟨-,r1,l1,q1,i1⟩:=h1 enc k [v1] y1.1 y1.2 g1 w1;obtain⟨-,r2,l2,q2,i2⟩:=h2 enc k [v2] y2.1 y2.2 g2 w2;obtain⟨-,r3,l3,q3,i3⟩:=h3 enc k [v3] y3.1 y3.2 g3 w3;obtain⟨-,r4,l4,q4,i4⟩:=h4 enc k [v4] y4.1 y4.2 g4 w4;obtain⟨a,rfl⟩:=one l0;obtain⟨b,rfl⟩:=one l1;obtain⟨c,rfl⟩:=one l2;obtain⟨d',rfl⟩:=one l3;obtain⟨e,rfl⟩:=one l4;exact⟨hl,[a,b,c,d',e],rfl,⟨a,b,c,d',e,rfl,q0,q1,q2,q3,q4⟩,tL i0 (tL i1 (tL i2 (tL i3 i4)))⟩
theorem pX(W:Γ):Reads W 24 1 λr=>∃v l,r=[v]/\IS aP v l/\(∀x∈l,GD x)/\l.length*16<=reachBytes:=
 uY (L:=aP) Tryz.underlying24 (by kernel_rfl) (by kernel_rfl) (by decide) (Reads.mono (AO W) λr ⟨s,h1,h2⟩=>⟨s,h1,h2⟩)
instance:Inhabited am:=⟨⟨[],0,[],[],0⟩⟩
instance:Inhabited aD:=⟨⟨[],[],[],[],[]⟩⟩
def adA(s:am):Prop:=s.args.length<=8796093022208/\s.lits.length<=8796093022208
theorem aa4{n:Nat}(h:n*16<=reachBytes):n<=8796093022208:=by
 have e:reachBytes=140737488351232:=by decide
 omega
theorem Kl(W:Γ):Reads W 82 5 λr=>∃x,fB.P r x/\adA x:=
 Reads.mono (Db Tryz.underlying82 (by kernel_rfl) rfl rfl rfl rfl rfl (by kernel_rfl) (by kernel_rfl) (by kernel_rfl) (by kernel_rfl) (by kernel_rfl) (AO W) (Fh W) (pX W) (pX W) (Fh W)) λr ⟨a,b,c,d,e,hr,⟨s,h0,_⟩,⟨n,h1⟩,⟨v2,l2,h2,i2,_,b2⟩,⟨v3,l3,h3,i3,_,b3⟩,⟨m,h4⟩⟩=>by
  cases h0;cases h1;cases h2;cases h3;cases h4;exact⟨⟨s,n,l2,l3,m⟩,⟨_,_,hr,i2,i3⟩,aa4 b2,aa4 b3⟩
theorem Km(W:Γ):Reads W 46 5 λr=>∃x,dU.P r x/\Raw x:=
 Reads.mono (Db Tryz.underlying46 (by kernel_rfl) rfl rfl rfl rfl rfl (by kernel_rfl) (by kernel_rfl) (by kernel_rfl) (by kernel_rfl) (by kernel_rfl) (AO W) (pX W) (pX W) (pX W) (uY (L:=fB) Tryz.underlying44 (by kernel_rfl) rfl (by decide) (Kl W))) λr ⟨a,b,c,d,e,hr,⟨s,h0,_⟩,⟨v1,l1,h1,i1,_⟩,⟨v2,l2,h2,i2,_⟩,⟨v3,l3,h3,i3,_⟩,⟨v4,l4,h4,i4,hB,_⟩⟩=>by
  cases h0;cases h1;cases h2;cases h3;cases h4;exact⟨⟨s,l1,l2,l3,l4⟩,⟨_,_,_,_,hr,i1,i2,i3,i4⟩,⟨λs hs=>(hB s hs).1,λs hs=>(hB s hs).2⟩⟩
theorem Ik(W:Γ):Reads W 22 1 λr=>∃v l,r=[v]/\IS dU v l/\(∀x∈l,Raw x)/\l.length*Tryz.prog.bytesOf 46<=reachBytes:=
 uY (L:=dU) Tryz.underlying22 (by kernel_rfl) rfl (by decide) (Km W)
section
variable {H:Type}{enc:TypeId × ο->H}{W:Γ}{base:Nat}{v:ο}{d:DataW H}{p:List MemPlace}
theorem U6{t:Nat}{Q:List V->Prop}(hr:Reads W t 1 Q)(hc:v.cells = #[v])(h:DataW.Trod enc κ W 0 (λ_=>true) true t v d p)(hw:(fd κ t d).all (· <= reachBytes)=true):∃a,Q [a]/\VR (xE W) a v:=by
 obtain⟨fuel,h⟩:=h;rw[hc]at h;obtain⟨-,r,h1,h2,h3⟩:=hr enc fuel _ d p h hw;obtain⟨a,rfl⟩:=one h1;cases h3 with
 |cons _ _ _ _ hv _=>exact⟨a,h2,.inl hv⟩
theorem H_{t e:Nat}(ht:Tryz.prog.underlying t=some (.slice e))(hv:qr κ W .any base t v):v.cells = #[v]:=by
 unfold qr at hv;rw[ht]at hv;have hv:Cell.okWide κ W .any base t v:=hv;unfold Cell.okWide Cell.ok at hv;rw[ht]at hv;cases v with
 |slice q len cap=>rfl
 |_=>exact hv.elim
theorem ON(hv:qr κ W .any base 22 v)(h:DataW.Trod enc κ W 0 (λ_=>true) true 22 v d p)(hw:(fd κ 22 d).all (· <= reachBytes)=true):∃a l,IS dU a l/\(∀x∈l,Raw x)/\VR (xE W) a v:=by
 obtain⟨a,⟨v',l,e,h1,h2,-⟩,h3⟩:=U6 (Ik W) (H_ Tryz.underlying22 hv) h hw;cases e;exact⟨a,l,h1,h2,h3⟩
end
end
end Go.Proofs.YtmbikbgdbbcbmaaGreatDoor
namespace Go.Proofs.YtmbikbgdbbcbmaaGreatDoor.Lb
open Go Go.Ax Go.AxS
section
structure bK (E:Env):Prop where
 mP:E.ty 3=some { kd:=.int .i64,size:=1,bytes:=8,zero:=.int .i64 0 }
 Ex:E.ty 4=some { kd:=.bool,size:=1,bytes:=1,zero:=.bool false }
 dJ:E.ty 9=some { kd:=.str,size:=1,bytes:=16,zero:=.str [] }
 fF:E.ty 23=some { kd:=.sl 51,size:=1,bytes:=24,zero:=.aG }
 qP:E.ty 84=some { kd:=.ptr 92,size:=1,bytes:=8,zero:=.fV }
 q_:E.ty 88=some { kd:=.map 51 4,size:=1,bytes:=8,zero:=.cA }
 oW:E.ty 90=some { kd:=.jL [(0,88)],size:=1,bytes:=8,zero:=.agg [.cA] }
 uQ:E.ty 92=some { kd:=.jL [(0,90)],size:=1,bytes:=8,zero:=.agg [.cA] }
 bU:E.ty 51=some { kd:=.jL [(0,4),(1,9)],size:=2,bytes:=24,zero:=.agg [.bool false,.str []] }
 CL:E.ty 140=some { kd:=.ptr 90,size:=1,bytes:=8,zero:=.fV }
 Uq:E.eqs 51=some [.bool,.str]
 Rh:E.hspec 116=some (kM 51 [154] [] 118)
 hs15:E.hspec 15=none
 SZ:E.spec 15=none
 fn15:E.fn 15=some (aA Tryz.f15)
 md15:E.mode 15=.shared
 hs58:E.hspec 58=none
 sp58:E.spec 58=none
 fn58:E.fn 58=some (aA Tryz.f58)
 md58:E.mode 58=.eW
 hs57:E.hspec 57=none
 sp57:E.spec 57=none
 fn57:E.fn 57=some (aA Tryz.f57)
 md57:E.mode 57=.eW
 hs60:E.hspec 60=none
 sp60:E.spec 60=none
 fn60:E.fn 60=some (aA Tryz.f60)
 md60:E.mode 60=.shared
 aa9:E.hspec 70=none
 YA:E.spec 70=none
 ab6:E.fn 70=some (aA Tryz.f70)
 aad:E.mode 70=.shared
 abS:E.hspec 114=none
 Zi:E.spec 114=none
 acQ:E.fn 114=some (aA Tryz.f114)
 aaR:E.mode 114=.shared
 Xm:E.hspec 65=none
 VV:E.spec 65=none
 Xs:E.fn 65=some (aA Tryz.f65)
 WS:E.mode 65=.shared
 aba:E.hspec 63=none
 YC:E.spec 63=none
 ab7:E.fn 63=some (aA Tryz.f63)
 aae:E.mode 63=.eW
 hs64:E.hspec 64=none
 sp64:E.spec 64=none
 fn64:E.fn 64=some (aA Tryz.f64)
 md64:E.mode 64=.eW
 abK:E.hspec 135=none
 Za:E.spec 135=none
 acI:E.fn 135=some (aA Tryz.f135)
 aaJ:E.mode 135=.eW
 hs67:E.hspec 67=none
 sp67:E.spec 67=none
 fn67:E.fn 67=some (aA Tryz.f67)
 md67:E.mode 67=.eW
 hs66:E.hspec 66=none
 sp66:E.spec 66=none
 fn66:E.fn 66=some (aA Tryz.f66)
 md66:E.mode 66=.eW
 hs118:E.hspec 118=none
 sp118:E.spec 118=none
 fn118:E.fn 118=some (aA Tryz.f118)
 md118:E.mode 118=.eW
 hs155:E.hspec 155=none
 sp155:E.spec 155=none
 fn155:E.fn 155=some (aA Tryz.f155)
 md155:E.mode 155=.eW
 hs189:E.hspec 189=none
 sp189:E.spec 189=none
 fn189:E.fn 189=some (aA Tryz.f189)
 md189:E.mode 189=.eW
 Rf:E.hspec 117=none
 PG:E.spec 117=none
 Rx:E.fn 117=some (aA Tryz.f117)
 Qt:E.mode 117=.shared
 hs75:E.hspec 75=none
 sp75:E.spec 75=none
 fn75:E.fn 75=some (aA Tryz.f75)
 md75:E.mode 75=.eW
 hs16:E.hspec 16=none
 SY:E.spec 16=none
 fn16:E.fn 16=some (aA Tryz.f16)
 md16:E.mode 16=.eW
 hs43:E.hspec 43=none
 sp43:E.spec 43=none
 fn43:E.fn 43=some (aA Tryz.f43)
 md43:E.mode 43=.eW
 hs109:E.hspec 109=none
 sp109:E.spec 109=none
 fn109:E.fn 109=some (aA Tryz.f109)
 md109:E.mode 109=.eW
 abX:E.hspec 105=none
 Zn:E.spec 105=none
 acW:E.fn 105=some (aA Tryz.f105)
 aaW:E.mode 105=.eW
 abL:E.hspec 134=none
 Zb:E.spec 134=none
 acJ:E.fn 134=some (aA Tryz.f134)
 aaK:E.mode 134=.eW
 abM:E.hspec 133=none
 Zc:E.spec 133=none
 acK:E.fn 133=some (aA Tryz.f133)
 aaL:E.mode 133=.shared
 Rj:E.hspec 102=none
 PI:E.spec 102=none
 Ry:E.fn 102=some (aA Tryz.f102)
 Qu:E.mode 102=.eW
 adh:aN E (η [1,1,1,1,0,1,2,2,1,1,0,2,1] (aA Tryz.f70).code)=true
 Vs:aN E (η [1,0] (aA Tryz.f63).code)=true
 XI:aN E (η [1,0] (aA Tryz.f135).code)=true
 d75_2:aN E (η [1,1,0,2,2,0,0] (aA Tryz.f75).code)=true
 d75_4:aN E (η [1,1,1,0,0] (aA Tryz.f75).code)=true
 z75_6:fP E (Φ (η [1,1,1,1,0] (aA Tryz.f75).code))=.lit
 p75_6:cK E .lit (Φ (η [1,1,1,1,0] (aA Tryz.f75).code))=some [⟨3,4,true,false⟩,⟨3,9,true,false⟩,⟨6,9,true,false⟩]
 d16_6:aN E (η [1,1,0,1,2,2,1,0,2,0] (aA Tryz.f16).code)=true
 ado:aN E (η [1,0,1,2,2,1,0,2,0] (aA Tryz.f43).code)=true
def dY(Z σ':Sg):Prop:=∀(b t:Nat)(cs:List V)(ex:Bool),Z[b]?=some (.cells t cs ex)->σ'[b]?=some (.cells t cs ex)
theorem dY.refl(Z:Sg):dY Z Z:=λ_ _ _ _ h=>h
theorem dY.trans{Z Y ρ:Sg}(h:dY Z Y)(k:dY Y ρ):dY Z ρ:=λb t cs ex e=>k b t cs ex (h b t cs ex e)
theorem gR{Z:Sg}{b:Nat}{o:O}(h:Z[b]?=some o)(Y:Sg):(Z++Y)[b]?=some o:=by
 rw[au (AI.1 h).1];exact h
theorem dY.app(Z Y:Sg):dY Z (Z++Y):=λ_ _ _ _ h=>gR h Y
theorem dY.GF{Z:Sg}{m:Nat}{es es':List (V × V)}(h:Z[m]?=some (.map es)):dY Z (Z.set m (.map es')):=λb t cs ex e=>by
 by_cases hb:m=b
 ·subst hb;rw[h]at e;cases e
 ·rw[aa hb];exact e
def SV(Z:Sg)(v:V)(l:List aC):Prop:=
 (v=.aG/\l=[])\/(∃g full,v=.bV g (l.map row) full)\/∃b cs ex,v=.sl b 0 l.length none/\Z[b]?=some (.cells 51 cs ex)/\cs.take (l.length*2)=l.flatMap row
def LV(v:V)(l:List aC):Prop:=(v=.aG/\l=[])\/∃g full,v=.bV g (l.map row) full
theorem LV.sv{v:V}{l:List aC}(h:LV v l)(Z:Sg):SV Z v l:=h.imp id .inl
theorem SV.keep{Z σ':Sg}{v:V}{l:List aC}(h:SV Z v l)(k:dY Z σ'):SV σ' v l:=by
 rcases h with h | h | ⟨b,cs,ex,h1,h2,h3⟩
 ·exact .inl h
 ·exact .inr (.inl h)
 ·exact .inr (.inr ⟨b,cs,ex,h1,k _ _ _ _ h2,h3⟩)
theorem kN:∀l:List aC,(l.flatMap row).length=l.length*2
 | []=>rfl
 |x::l=>by rw[fg,By,kN l,IT];show 2+_=_;omega
theorem DT(l:List aC):(l.map row).flatten=l.flatMap row:=by rw[List.flatMap_def]
theorem Ff:∀l:List aC,rows 2 l.length (l.flatMap row)=l.map row
 | []=>rfl
 |x::l=>by
  show ((row x++l.flatMap row).take 2)::rows 2 l.length ((row x++l.flatMap row).drop 2)=_;rw[show (row x++l.flatMap row).take 2=row x from rfl,show (row x++l.flatMap row).drop 2=l.flatMap row from rfl,Ff l];rfl
theorem Hg:∀(l:List aC)(i:Nat)(x:aC),l[i]?=some x->((l.flatMap row).drop (i*2)).take 2=row x
 | [],i,x,h=>by simp at h
 |y::l,0,x,h=>by cases h;rfl
 |y::l,i+1,x,h=>by
  rw[show (i+1)*2=i*2+2 by omega];show ((row y++l.flatMap row).drop (i*2+2)).take 2=_;rw[lu,<- List.drop_drop];exact Hg l i x h
theorem wN{f:V->Option V}:∀l:List V,(∀x∈l,f x=some x)->aW f l=some l
 | [],_=>rfl
 |x::l,h=>by
  rw[aW,h x (No ..),wN l λy hy=>h y (ae _ hy)]
theorem Nv{l:List aC}{v:V}(h:v∈l.flatMap row):(∃b,v=.bool b)\/∃s,v=.str s:=by
 rw[ij]at h;obtain⟨x,_,hx⟩:=h;simp only[row,IN,bz,ek]at hx;rcases hx with rfl | rfl
 ·exact .inl ⟨_,rfl⟩
 ·exact .inr ⟨_,rfl⟩
section
variable {E:Env}{Z:Sg}{K:V->Sg->Prop}
theorem S6(h:bK E)(g:Bool){b:Nat}{cs:List V}{ex:Bool}{l:List aC}(hb:Z[b]?=some (.cells 51 cs ex))(hc:cs.take (l.length*2)=l.flatMap row) :
  ∃full,aR Z E.ty g (.sl b 0 l.length none)=some (.bV g (l.map row) full):=by
 have hlen:l.length*2<=cs.length:=by
  have:=b8 df hc;rw[bl,kN]at this;omega
 have hm:aW (λv=>match bA Z E.ty g 11 v with
   |some v=>if cI g v then some v else no "snap: borrowed"
   |none=>none) (l.flatMap row)=some (l.flatMap row):=by
  refine wN _ λx hx=>?_;rcases Nv hx with⟨b,rfl⟩ | ⟨s,rfl⟩
  ·cases g <;> rfl
  ·cases g <;> rfl
 refine⟨(match (none:Option Nat) with
  |some k=>k==l.length
  |none=>ex&&decide (0<2)&&(0+l.length*2==cs.length)),?_⟩
 have e:bA Z E.ty g 12 (.sl b 0 l.length none)=some (.bV g (l.map row) (ex&&decide (0<2)&&(0+l.length*2==cs.length))):=by
  rw[bA];simp only[hb,h.bU];rw[az (by omega),ez,hc]
  show (match aW (λv=>match bA Z E.ty g 11 v with
   |some v=>if cI g v then some v else no "snap: borrowed"
   |none=>none) (l.flatMap row) with
   |some l'=>some (V.bV g (rows 2 l.length l') (ex&&decide (0<2)&&(0+l.length*2==cs.length)))
   |none=>none)=_
  rw[hm];simp only[Ff]
 show (match bA Z E.ty g 12 (.sl b 0 l.length none) with
  |some v=>if cI g v then some v else no "snap: borrowed"
  |none=>none)=_
 rw[e];cases g <;> rfl
theorem S8(h:bK E){v:V}{l:List aC}(hv:SV Z v l):∃v',aR Z E.ty true v=some v'/\LV v' l:=by
 rcases hv with⟨rfl,rfl⟩ | ⟨g,full,rfl⟩ | ⟨b,cs,ex,rfl,hb,hc⟩
 ·exact⟨.aG,rfl,.inl ⟨rfl,rfl⟩⟩
 ·exact⟨_,rfl,.inr ⟨g,full,rfl⟩⟩
 ·obtain⟨full,e⟩:=S6 h true hb hc;exact⟨_,e,.inr ⟨true,full,rfl⟩⟩
theorem QS(h:bK E){v:V}{l:List aC}(hv:SV Z v l):lenOf E Z 23 v=some l.length:=by
 unfold lenOf;rw[h.fF];rcases hv with⟨rfl,rfl⟩ | ⟨g,full,rfl⟩ | ⟨b,cs,ex,rfl,hb,hc⟩
 ·rfl
 ·simp
 ·rfl
theorem MR(h:bK E){v:V}{l:List aC}(hv:SV Z v l){i:Nat}{x:aC}(hx:l[i]?=some x) :
  ∃a,indexAddr E 23 v (.int .i64 (i:Int))=some a/\∀σ',dY Z σ'->loadAt E σ' 51 a=some (.agg [.bool x.1,.str x.2]):=by
 have hi:=(AI.1 hx).1;rcases hv with⟨rfl,rfl⟩ | ⟨g,full,rfl⟩ | ⟨b,cs,ex,rfl,hb,hc⟩
 ·simp at hx
 ·have hr:(l.map row)[((i:Nat):Int).toNat]?=some (row x):=by
   rw[dx,jm,hx];rfl
  refine⟨.cR g (row x),?_,λσ' _=>?_⟩
  ·unfold indexAddr;simp only[h.fF,h.bU,hr];rw[an (by omega)];rfl
  ·unfold loadAt;simp only[h.bU];rfl
 ·refine⟨.ref b (0+i*2),?_,λσ' k=>?_⟩
  ·unfold indexAddr;simp only[h.fF,h.bU,dx];rw[an (by omega),az hi]
  ·have hlen:l.length*2<=cs.length:=by
    have:=b8 df hc;rw[bl,kN]at this;omega
   unfold loadAt;simp only[h.bU,k _ _ _ _ hb]
   have e:(cs.drop (0+i*2)).take 2=row x:=by
    have:=Hg l i x hx;rw[<- hc,List.drop_take,nr]at this;rw[show min 2 (l.length*2-i*2)=2 by omega]at this;rw[dc];exact this
   rw[show qo (Kd.jL [(0,4),(1,9)])=true from rfl];simp only[bf];rw[az (by omega),e];rfl
end
end
end Go.Proofs.YtmbikbgdbbcbmaaGreatDoor.Lb
namespace Go.Proofs.YtmbikbgdbbcbmaaGreatDoor
open Go Go.Ax Go.ChangeShapes Go.WideShapes Go.ChangeAt Go.RowKit
section
section
variable {H:Type}{enc:TypeId × ο->H}{W:Γ}{base:Nat}{v:ο}{d:DataW H}{p:List MemPlace}
theorem Gb(hv:qr κ W .any base 51 v)(h:DataW.Trod enc κ W 0 (λ_=>true) true 51 v d p)(hw:(fd κ 51 d).all (· <= reachBytes)=true) :
  ∃(x:Bool) (s:ByteArray),v=.agg #[.bool x,.string s]/\(fY s).length<=9223372036854775806:=by
 obtain⟨cs,rfl⟩:∃cs,v=.agg cs:=by
  unfold qr at hv;rw[Tryz.underlying51]at hv;obtain⟨cs,h1,_⟩:=hv;exact⟨cs,h1⟩
 obtain⟨fuel,h⟩:=h;obtain⟨y0,y1,n,he,hl,u0,u1⟩:=trod_struct2 Tryz.underlying51 h;have hl':cs.toList.length=2:=hl.trans (by kernel_rfl);obtain⟨l⟩:=cs
 match l,hl' with
 | [c0,c1],_=>
  obtain⟨x,e0,_⟩:=DataW.trod_bool Tryz.underlying4 u0;obtain⟨s,e1,e1',_⟩:=DataW.trod_string aE u1;have k0:Tryz.prog.cellsOf 4=1:=by kernel_rfl
  have k1:Tryz.prog.cellsOf 9=1:=by kernel_rfl
  have f0:[c0]=[Value.bool x]:=by rw[<- e0];rw[k0];rfl
  have f1:[c1]=[Value.string s]:=by rw[<- e1];rw[k1];rfl
  cases f0;cases f1;refine⟨x,s,rfl,?_⟩;have hd:d=.agg [y0.1,y1.1]:=b8 be he;rw[hd,e1']at hw;unfold fd at hw;rw[Tryz.underlying51]at hw;simp only[bj,map_nil,ie,fd,lg,ak,iy,af]at hw;rw[Al];have:s.size=s.data.toList.length:=rfl;have e:reachBytes=140737488351232:=by decide
  omega
end
theorem HI(W:Γ)(x:Bool)(s:ByteArray):VR (xE W) (.agg [.bool x,.str (fY s)]) (.agg #[.bool x,.string s]):=
 .agg _ [_,_] (.cons _ _ _ _ (.inl (.bool _)) (.cons _ _ _ _ (.inl (.str _)) .nil))
end
end Go.Proofs.YtmbikbgdbbcbmaaGreatDoor
namespace Go.Proofs.YtmbikbgdbbcbmaaGreatDoor
open Go Go.Ax Go.AxS
section
section
variable {E:Env}{Z:Sg}{K:V->Sg->Prop}
theorem O_(m b o n:Nat):sO (m+1) (.sl b o n none) (.sl b o n none)=true:=by
 show (decide (b=b)&&decide (o=o)&&decide (n=n))=true;simp
theorem Lx(h:bG E){Y:Sg}{b:Nat}{ex:Bool}{rs:List (List V)}(hl:∀r∈rs,r.length=5)(hb:Y[b]?=some (.cells 82 rs.flatten ex)){i:Nat}{r:List V}(hr:rs[i]?=some r){k:Nat}(hk:k<5){u:V}(hu:ge u=true) :
  storeAt E Y 24 (.ref b (i*5+k)) u=some (Y.set b (.cells 82 (rs.set i (r.set k u)).flatten ex)):=by
 have hil:=(AI.1 hr).1;have hfl:rs.flatten.length=rs.length*5:=oI rs hl;unfold storeAt;simp only[h.bB,hb];rw[jV hu,az (by simp only[IT,aq,iy,ki,aQ hu,me,ak,af];exact⟨rfl,by omega⟩),PX hl hr hk]
theorem Mu(h:bG E){Y:Sg}{b:Nat}{ex:Bool}{rs:List (List V)}(hl:∀r∈rs,r.length=5)(hb:Y[b]?=some (.cells 82 rs.flatten ex)){i:Nat}{r:List V}(hr:rs[i]?=some r){k:Nat}(hk:k<5){u:V}(hu:r[k]?=some u):loadAt E Y 24 (.ref b (i*5+k))=some u:=by
 unfold loadAt;simp only[h.bB,hb,qo,ai,b9];rw[qJ rs hl i r hr k hk,hu]
theorem QD(h:bG E){l:List am}{s:am}{nm:bF}{a' b' c' w:V}{Y:Sg}{i:Nat}(hi:l[i]?=some s)(x0:Y[2]?=some (ζ 46 [.str nm,a',b',c',w] true))(ow:aY gK 82 Y w l)(F:FT)(g1:F.get 2=.ref 1 0)(g3:F.get 3=.ref 2 0)(g4:F.get 4=.int .i64 (i:Int)){st:List iT}{Q:io->Fr->Sg->Prop}
  (hk:∀F' τ',(∀k,k<44->F'.get k=F.get k)->aY gK 82 τ' w (l.set i (Cf s))->Sp Y τ' w->M E st .normal ⟨86,F'⟩ τ' Q):R E (.region 6 (Φ (η [1,1,1,0,1,2,2,1,1,0,2,1] (aA m7).code)) true) st ⟨86,F⟩ Y Q:=by
 have hil:=(AI.1 hi).1;rcases ow with⟨rfl,rfl⟩ | ⟨b,rs,ex,rfl,hb,ha⟩
 ·cases hi
 obtain⟨r,hr,hP⟩:=ha.get i s hi;obtain⟨p,q,rfl,ip,iq⟩:=hP;have hls:=Lay.lens ha;have hls:∀r∈rs,r.length=5:=hls;obtain⟨p1,e1,ip1⟩:=F7 h ip 8;obtain⟨q1,e2,iq1⟩:=F7 h iq 3;have lp:=bT h ip.is;have lq:=bT h iq.is;have m1:=FA s.args.length 8;have m2:=FA s.lits.length 3;have m1:iN false .i64 (s.args.length:Int) [.int .i64 8]=some ((min s.args.length 8:Nat):Int):=m1;have m2:iN false .i64 (s.lits.length:Int) [.int .i64 3]=some ((min s.lits.length 3:Nat):Int):=m2
 have ix:indexAddr E 44 (.sl b 0 l.length none) (.int .i64 (i:Int))=some (.ref b (i*5)):=by
  have hneg:¬ ((i:Int)<0):=by omega
  unfold indexAddr;simp only[hneg,b9,h.gA,h.dF,dx,hil,bf,dc]
 have d1:=Mu h hls hb hr (k:=2) (by omega) (u:=p) rfl;have d2:=Mu h hls hb hr (k:=3) (by omega) (u:=q) rfl;have s1:=Lx h hls hb hr (k:=2) (by omega) (u:=p1) ip1.is.bE;have hbl:=(AI.1 hb).1;have hrl:=(AI.1 hr).1;have hr1:(rs.set i [.str s.out,.int .i64 s.op,p1,q,.int .i64 s.n])[i]?=some [.str s.out,.int .i64 s.op,p1,q,.int .i64 s.n]:=br hrl;have ha1:eL gK.P (rs.set i [.str s.out,.int .i64 s.op,p1,q,.int .i64 s.n]) (l.set i { s with args:=s.args.take 8 }):=ha.set (y:={ s with args:=s.args.take 8 }) ⟨p1,q,rfl,ip1,iq⟩ i;have hls1:∀r∈rs.set i [.str s.out,.int .i64 s.op,p1,q,.int .i64 s.n],r.length=5:=Lay.lens ha1;have s1:storeAt E Y 24 (.ref b (i*5+2)) p1=some (Y.set b (.cells 82 (rs.set i [.str s.out,.int .i64 s.op,p1,q,.int .i64 s.n]).flatten ex)):=s1;have hb1:(Y.set b (.cells 82 (rs.set i [.str s.out,.int .i64 s.op,p1,q,.int .i64 s.n]).flatten ex))[b]?=some (.cells 82 (rs.set i [.str s.out,.int .i64 s.op,p1,q,.int .i64 s.n]).flatten ex):=wG hb;have s2:=Lx h hls1 hb1 hr1 (k:=3) (by omega) (u:=q1) iq1.is.bE;have hb2:b≠2:=λe=>by subst e;rw[hb]at x0;cases x0
 have x1:(Y.set b (.cells 82 (rs.set i [.str s.out,.int .i64 s.op,p1,q,.int .i64 s.n]).flatten ex))[2]?=some (ζ 46 [.str nm,a',b',c',.sl b 0 l.length none] true):=rB x0 hb2
 have ldx:∀Y:Sg,Y[2]?=some (ζ 46 [.str nm,a',b',c',.sl b 0 l.length none] true)->loadAt E Y 44 (.ref 2 4)=some (.sl b 0 l.length none):=λY hx=>by
  unfold loadAt;simp only[h.gA,hx,qo,ai,b9];rfl
 have w0:=ldx _ x0;have w1:=ldx _ x1;have v1:=O_ 11 b 0 l.length;have v2:=λk i=>Lq 11 k i;have v3:=cL 10 iq1.is;generalize hτ1:Y.set b (.cells 82 (rs.set i [.str s.out,.int .i64 s.op,p1,q,.int .i64 s.n]).flatten ex)=τ1 at *
 have key:∃F',cP E (ev E 0) (Φ (η [1,1,1,0,1,2,2,1,1,0,2,1] (aA m7).code)) ⟨86,F⟩ Y=some (⟨86,F'⟩,τ1.set b (.cells 82 ((rs.set i [.str s.out,.int .i64 s.op,p1,q,.int .i64 s.n]).set i ([V.str s.out,.int .i64 s.op,p1,q,.int .i64 s.n].set 3 q1)).flatten ex))/\∀k,k<44->F'.get k=F.get k:=by
  unfold cP;rw[h.VE,h.WH];simp only[aA,m7,KP,↓reduceIte,δ,ε,μ,reduceCtorEq,h.bB,h.gA,h.bO,h.dF,Φ,η,iQ,bN,cE,lD,nz,pu,iM,ly,aT,g3,g4,w0,w1,ix,d1,d2,lp,lq,m1,m2,e1,e2,s1,s2,v1,v2,v3];refine⟨_,rfl,λk hk=>?_⟩;simp only[FT.bX]
  repeat rw[an (by omega)]
 obtain⟨F',hE,hF⟩:=key;refine rl (iW hE) (hk F' _ hF ?_ ?_)
 ·have hn:(l.set i (Cf s)).length=l.length:=dy;refine .inr ⟨b,_,ex,by rw[hn],wG hb1,?_⟩;rw[List.set_set];exact ha.set (y:=Cf s) ⟨p1,q1,rfl,ip1,iq1⟩ i
 ·intro c o e hne;have hcb:b≠c:=λe2=>hne (by rw[e2];rfl);rw[<- hτ1,List.set_set,aa hcb];exact e
theorem GV{l:List am}{i:Nat}{s:am}(hi:l[i]?=some s):((l.take i).map Cf++l.drop i).set i (Cf s)=(l.take (i+1)).map Cf++l.drop (i+1):=by
 have hil:=(AI.1 hi).1;have h1:((l.take i).map Cf).length=i:=by rw[bw,bl];omega
 rw[o7 _ _ (by omega),h1,j9,jv hil,kj,dz,hi];simp
theorem OG(h:bG E){v:V}{x:aD}(hv:JC v x)(hx:Raw x):aB E 110 [v] Z λv' σ'=>σ'=Z/\∃a b c d,v'=.agg [.str x.name,a,b,c,d]/\kQ aP a (cut x).ins/\kQ aP b (cut x).outs/\kQ aP c (cut x).after/\kQ gK d (cut x).steps:=by
 have ev:=hv.snap (E:=E) Z;obtain⟨a,b,c,d,rfl,ia,ib,ic,id⟩:=hv;rw[aH h.abV h.Zl h.acT h.aaU (args':=[.agg [.str x.name,a,b,c,d]]) (by simp only[aW,ev]),aU (by kernel_rfl)];have ha:=aQ ia.bE;have hb:=aQ ib.bE;have hc:=aQ ic.bE;have hd:=aQ id.bE;simp only[aA,m7,KP,↓reduceIte,ε,μ,h.bO,ha,hb,hc,hd];refine QE h ia ib ic id _ ?_ ?_ ?_
 ·simp+decide only[GS]
 ·simp+decide only[GS]
 intro F1 a1 b1 c1 d1 g1 g2 g3 i1 i2 i3 i4;simp only[KP,ι,↓reduceIte,ε,μ,h.bO,g3];refine aK (X7 h (x:=sE x) ⟨a1,b1,c1,d1,rfl,i1,i2,i3,i4⟩ hx.mid) ?_;rintro v1 Y ⟨⟨a2,b2,c2,w,rfl,j1,j2,j3,ow,hw⟩,kp⟩;have o1:=aQ j1.is.bE;have o2:=aQ j2.is.bE;have o3:=aQ j3.is.bE;obtain⟨hc1,hc2⟩:=rQ ow;have z0:Y[1]?=some (ζ 46 [.str [],.aG,.aG,.aG,.aG] true):=kp 1 _ rfl;have x0:=kp 2 _ (show ([ζ 46 [.str x.name,a,b,c,d] true,ζ 46 [.str [],.aG,.aG,.aG,.aG] true,ζ 46 [.str x.name,a1,b1,c1,d1] true]:Sg)[2]?=_ from rfl);have hw3:∀k,aO w=some k->3<=k:=hw;have x1:=wG (x:=ζ 46 [.str x.name,a2,b2,c2,w] true) x0;have z1:=rB (x:=ζ 46 [.str x.name,a2,b2,c2,w] true) z0 (show (2:Nat)≠1 by omega);have ow1:aY gK 82 (Y.set 2 (ζ 46 [.str x.name,a2,b2,c2,w] true)) w (sE x).steps:=ow.keep λk o hk ho=>rB ho (λe=>by have:=hw3 k hk;omega);have nm0:(sE x).name=x.name:=rfl;have lw:∀l:List am,l.length=(sE x).steps.length->∀Z,aY gK 82 Z w l->lenOf E Z 44 w=some (sE x).steps.length:=λl hl Z o=>by rw[<- hl];exact lV h.gA rfl o.ls
 have lw1:=lw _ rfl _ ow1;simp only[KP,ι,Ξ,↓reduceIte,δ,ε,μ,reduceCtorEq,h.gA,h.bO,g3,nm0,x0,x1,lw1,o1,o2,o3,hc2];generalize Y.set 2 (ζ 46 [.str x.name,a2,b2,c2,w] true)=Y at *;refine aV (λi F Y=>Y[1]?=some (ζ 46 [.str [],.aG,.aG,.aG,.aG] true)/\Y[2]?=some (ζ 46 [.str x.name,a2,b2,c2,w] true)/\aY gK 82 Y w (((sE x).steps.take i).map Cf++(sE x).steps.drop i)/\F.get 2=.ref 1 0/\F.get 3=.ref 2 0/\F.get 40=.int .i64 ((sE x).steps.length:Int)/\F.get 41=.int .i64 (i:Int)) (sE x).steps.length ?_ ?_ (sE x).steps.length 0 _ _ (by omega) ⟨z1,x1,by simpa using ow1,(by simp+decide only[GS,g2,g3,aj])⟩
 ·rintro i F Y hi ⟨z0,x0,ow,g2,g3,g40,g41⟩ next
  obtain⟨s,hst⟩:∃y,(sE x).steps[i]?=some y:=⟨_,AT hi⟩;have hlt:=dR hi;have hsz:(sE x).steps.length<=14:=by show (x.steps.take 14).length<=14;rw[bl];omega
  have hadd:=bW i (by omega)
  have hli:(((sE x).steps.take i).map Cf++(sE x).steps.drop i)[i]?=some s:=by
   rw[bg (by rw[bw,bl];omega),bw,bl,show i-min i (sE x).steps.length=0 by omega,jf,l6,hst]
  rw[aF];simp only[KP,↓reduceIte,δ,ε,g40,g41,hlt];refine QD h hli x0 ow _ ?_ ?_ ?_ ?_
  ·simp+decide only[GS,g2]
  ·simp+decide only[GS,g3]
  ·simp+decide only[GS]
  intro F2 τ2 hF ow2 sp;have k2:F2.get 2=.ref 1 0:=by rw[hF 2 (by omega)];exact(by simp+decide only[GS,g2])
  have k3:F2.get 3=.ref 2 0:=by rw[hF 3 (by omega)];exact(by simp+decide only[GS,g3])
  have k40:F2.get 40=.int .i64 ((sE x).steps.length:Int):=by rw[hF 40 (by omega)];exact(by simp+decide only[GS,g40])
  have k41:F2.get 41=.int .i64 (i:Int):=by rw[hF 41 (by omega)];exact(by simp+decide only[GS,g41])
  simp only[KP,↓reduceIte,ε,k41,hadd];rw[GV hst]at ow2;exact next _ _ ⟨sp _ _ z0 (vB z0 (by decide) ow),sp _ _ x0 (vB x0 (by decide) ow),ow2,(by simp+decide only[GS,k2,k3,k40,aj])⟩
 ·rintro F Y ⟨z0,x0,ow,g2,g3,g40,g41⟩;have hlt:=dW (bt (sE x).steps.length);rw[ah (OF _),ju (OF _),gy]at ow;have hne:=vB z0 (show 46≠82 by decide) ow;have zz:=wG (x:=ζ 46 [.str x.name,a2,b2,c2,w] true) z0;have ow3:aY gK 82 (Y.set 1 (ζ 46 [.str x.name,a2,b2,c2,w] true)) w ((sE x).steps.map Cf):=ow.keep λk o hk ho=>rB ho (λe=>by rw[<- e]at hk;exact hne hk);rw[aF];simp only[KP,ι,Ξ,↓reduceIte,δ,ε,μ,h.bO,g2,g3,g40,g41,hlt,x0,z0,zz,o1,o2,o3,hc2];generalize Y.set 1 (ζ 46 [.str x.name,a2,b2,c2,w] true)=Y at *;obtain⟨d',e1,id'⟩:=pQ h.dF rfl J2 ow3
  have one:∀{u:V},ge u=true->cI false u=true->aR.one Y E.ty false u=some u:=λ{u} h1 h2=>by
   have h3:=bZ (Z:=Y) (ty:=E.ty) (g:=false) h1 h2;cases u <;> first | exact h3 | cases h1
  have oned:aR.one Y E.ty false w=some d':=by
   rcases ow3 with⟨rfl,-⟩ | ⟨b,rs,ex,rfl,-⟩
   ·exact e1
   ·exact e1
  have hsn:cQ Y E.ty false (.agg [.str x.name,a2,b2,c2,w])=some (.agg [.str x.name,a2,b2,c2,d']):=by
   show (match aW (aR.one Y E.ty false) [.str x.name,a2,b2,c2,w] with
    |some l=>some (V.agg l)
    |none=>none)=_
   simp only[aW,one (u:=.str x.name) rfl rfl,one j1.is.bE j1.tag,one j2.is.bE j2.tag,one j3.is.bE j3.tag,oned]
  rw[hsn];exact⟨a2,b2,c2,d',rfl,j1,j2,j3,id'⟩
def nM:Lay aD:=⟨λr x=>∃a b c d,r=[.str x.name,a,b,c,d]/\kQ aP a x.ins/\kQ aP b x.outs/\kQ aP c x.after/\kQ gK d x.steps,5,λ_ _ ⟨_,_,_,_,h,_⟩=>by rw[h];rfl,λ_ _ ⟨a,b,c,d,h,h1,h2,h3,h4⟩ k hk=>by
 rw[h]at hk;simp only[IN,bz,ek]at hk;rcases hk with rfl | rfl | rfl | rfl | rfl
 ·rfl
 ·exact h1.is.bE
 ·exact h2.is.bE
 ·exact h3.is.bE
 ·exact h4.is.bE⟩
theorem C8:∀r x,nM.P r x->∀k∈r,cI false k=true:=λr x ⟨a,b,c,d,h,h1,h2,h3,h4⟩ k hk=>by
 rw[h]at hk;simp only[IN,bz,ek]at hk;rcases hk with rfl | rfl | rfl | rfl | rfl
 ·rfl
 ·exact h1.tag
 ·exact h2.tag
 ·exact h3.tag
 ·exact h4.tag
theorem tK{α:Type}{L M:Lay α}{v:V}{l:List α}(h:IS L v l)(k:∀r x,L.P r x->M.P r x):IS M v l:=h.imp id λ⟨g,rs,full,e,ha⟩=>⟨g,rs,full,e,ha.imp k⟩
theorem Ts{α:Type}{L M:Lay α}{t:Nat}{Z:Sg}{v:V}{l:List α}(h:LS L t Z v l)(hn:L.n=M.n)(k:∀r x,L.P r x->M.P r x):LS M t Z v l:=h.imp (λh=>tK h k) λ⟨b,cs,ex,rs,e,hb,ha,hc⟩=>⟨b,cs,ex,rs,e,hb,ha.imp k,by rw[<- hn];exact hc⟩
theorem sQ:∀r x,gK.P r x->fB.P r x:=λr x ⟨a,l,h,h1,h2⟩=>⟨a,l,h,h1.is,h2.is⟩
theorem xX:∀r x,nM.P r x->dU.P r x:=λr x ⟨a,b,c,d,h,h1,h2,h3,h4⟩=>⟨a,b,c,d,h,h1.is,h2.is,h3.is,tK h4.is sQ⟩
theorem Jt(h:bG E){Y:Sg}{w a b c d:V}{l:List aD}{r:aD}{ex:Bool}(ow:aY nM 46 Y w l)(h1:kQ aP a r.ins)(h2:kQ aP b r.outs)(h3:kQ aP c r.after)(h4:kQ gK d r.steps)(hb:l.length<=1000) :
  ∃w' τ',rt E (Y++[.cells 46 [.str r.name,a,b,c,d] ex]) #[22,22] w (.sl Y.length 0 1 none)=some (w',τ')/\aY nM 46 τ' w' (l++[r])/\Sp (Y++[.cells 46 [.str r.name,a,b,c,d] ex]) τ' w/\Y.length<=τ'.length:=by
 obtain⟨w',τ',q1,q2,q3,q4,-⟩:=kB (m:=[r]) (new:=[[.str r.name,a,b,c,d]]) h.CK rfl h.bO rfl (by decide) (vA h) rfl (ow.app [.cells 46 [.str r.name,a,b,c,d] ex]) (mI rfl) (.one ⟨a,b,c,d,rfl,h1,h2,h3,h4⟩) (dO (b:=1001) (by decide) (by simp only[IT,aq];omega));exact⟨w',τ',q1,q2,q3,by simp only[By,IT,aq]at q4;omega⟩
theorem K2(h:bG E){a:V}{rs:List aD}(ha:LS dU 46 Z a rs)(hr:∀x∈rs,Raw x):aB E 45 [a] Z λv σ'=>σ'=Z/\kQ nM v ((rs.take 42).map cut):=by
 obtain⟨a',ea,ia⟩:=fI h ha;rw[aH h.hs45 h.sp45 h.fn45 h.md45 (args':=[a']) (by simp only[aW,ea]),aU (by kernel_rfl)];have la:=dH h ia;simp only[aA,Tryz.f45,KP,↓reduceIte,ε];refine aV (λi F Y=>F.get 0=a'/\F.get 4=.int .i64 (i:Int)/\∃w,F.get 3=w/\aY nM 46 Y w ((rs.take i).map cut)) (min rs.length 42) ?_ ?_ (min rs.length 42) 0 _ _ (by omega) (mJ (by simp+decide only[GS,aj]) ⟨.aG,(by simp+decide only[GS]),.inl ⟨rfl,rfl⟩⟩)
 ·rintro i F Y hi ⟨g0,g4,w,g3,ow⟩ next
  obtain⟨r,hri⟩:∃y,rs[i]?=some y:=⟨_,AT (by omega)⟩;have hraw:=hr r (ag hri);obtain⟨g,p1,p2,p3,p4,e1,i1,i2,i3,i4⟩:=fQ h ia hri;have hlt:=dR (show i<rs.length by omega);have hlt2:decide ((i:Int)<42)=true:=BY (by omega);have hadd:=bW i (by omega);rw[aF];simp only[KP,ι,↓reduceIte,δ,ε,μ,reduceCtorEq,h.bO,g0,g3,g4,la,hlt,hlt2,e1];refine aK (OG h (P6 i1 i2 i3 i4) hraw) ?_;rintro v σ' ⟨rfl,a1,b1,c1,d1,rfl,j1,j2,j3,j4⟩;have o1:=aQ j1.is.bE;have o2:=aQ j2.is.bE;have o3:=aQ j3.is.bE;have o4:=aQ j4.is.bE;have hnm:r.name=(cut r).name:=rfl;obtain⟨w',τ',ha2,ow2,-,-⟩:=Jt (r:=cut r) (ex:=true) h ow j1 j2 j3 j4 (by rw[bw,bl];omega);rw[<- hnm]at ha2;simp only[KP,↓reduceIte,δ,ε,ω,μ,ap,h.CK,h.bO,g4,ha2,hadd,o1,o2,o3,o4,hZ,gG,gz];refine next _ _ (mJ (by simp+decide only[GS,g0,aj]) ⟨w',(by simp+decide only[GS]),?_⟩)
  have e:(rs.take (i+1)).map cut=(rs.take i).map cut++[cut r]:=by rw[dz,hri];simp
  rw[e];exact ow2
 ·rintro F Y ⟨g0,g4,w,g3,ow⟩;obtain⟨v',e1,iv⟩:=pQ h.bO rfl C8 ow;have ht:rs.take (min rs.length 42)=rs.take 42:=yX rs 42;rw[ht]at iv;rw[aF];by_cases hlen:rs.length<=42
  ·have hm:min rs.length 42=rs.length:=mq hlen;rw[hm]at g4;have hlt:=dW (bt rs.length);simp only[KP,↓reduceIte,δ,ε,reduceCtorEq,g0,g3,g4,la,hlt,e1];exact iv
  ·have hm:min rs.length 42=42:=Nat.min_eq_right (by omega);rw[hm]at g4;have hlt:decide (((42:Nat):Int)<(rs.length:Int))=true:=BY (by omega);have hlt2:decide (((42:Nat):Int)<42)=false:=rfl;simp only[KP,↓reduceIte,δ,ε,reduceCtorEq,g0,g3,g4,la,hlt,hlt2,e1];exact iv
theorem Ua(h:bG E){Y:Sg}{w a b c d:V}{l:List aD}{r:aD}{y:Nat}(ow:aY nM 46 Y w l)(hy:Y[y]?=some (.cells 46 [.str r.name,a,b,c,d] true))(j1:kQ aP a r.ins)(j2:kQ aP b r.outs)(j3:kQ aP c r.after)(j4:kQ gK d r.steps)(hs:∀x∈l++[r],Small x)(hl:l.length<=14)
  (F:FT)(g3:F.get 3=w)(g5:F.get 5=.ref y 0){st:List iT}{Q:io->Fr->Sg->Prop}
  (hk:∀F' τ' e,(∀k,k∈[0,3,5,9,10,11]->F'.get k=F.get k)->F'.get 6=.int .i64 e->JI (l++[r]) e->(∀(k:Nat)(o:O),Y[k]?=some o->τ'[k]?=some o)->M E st .normal ⟨37,F'⟩ τ' Q):R E (.region 5 (Φ (η [1,1,0,1,2,2,1,1,0,2,1,0] (aA Tryz.f12).code)) true) st ⟨37,F⟩ Y Q:=by
 obtain⟨rs,ee,hee⟩:=Jg (t:=46) (Z:=Y) ow.ls;obtain⟨w1,τ1,ha1,ow1,Vg,-,fb⟩:=kB (ats:=#[22,22]) (Z:=Y) (w:=.aG) (l:=[]) (L:=nM) (x:=w) (m:=l) h.CK rfl h.bO rfl (by decide) (vA h) rfl (.inl ⟨rfl,rfl⟩) ee hee (dO (b:=1000) (by decide) (by simp only[aq];omega));obtain⟨w2,τ2,ha2,ow2,St,-,-⟩:=kB (ats:=#[22,22]) (Z:=τ1) (x:=.bV false [[.str r.name,a,b,c,d]] true) (m:=[r]) (new:=[[.str r.name,a,b,c,d]]) h.CK rfl h.bO rfl (by decide) (vA h) rfl ow1 rfl (.one ⟨a,b,c,d,rfl,j1,j2,j3,j4⟩) (dO (b:=1000) (by decide) (by simp only[cz,IT,aq];omega));rw[cz]at ow2;have hy1:τ1[y]?=some (.cells 46 [.str r.name,a,b,c,d] true):=Vg _ _ hy (by intro e;cases e);have hall:=RP (Z:=τ2) h (Ts ow2.ls rfl xX) ⟨by simp only[By,IT,aq];omega,hs⟩;obtain⟨n,v,σ',hcall,hσ,e,nm,rfl,hE⟩:=hall;rw[hσ]at hcall;clear hσ σ';have o1:=aQ j1.is.bE;have o2:=aQ j2.is.bE;have o3:=aQ j3.is.bE;have o4:=aQ j4.is.bE;have t1:=j1.tag;have t2:=j2.tag;have t3:=j3.tag;have t4:=j4.tag;have ts:cI false (.str r.name)=true:=rfl;have v1:=cL 10 j1.is;have v2:=cL 10 j2.is;have v3:=cL 10 j3.is;have v4:=pJ 9 (tK j4.is sQ);have vs:=Br 10 r.name
 have va:sO 12 (.agg [.str r.name,a,b,c,d]) (.agg [.str r.name,a,b,c,d])=true:=qO λx hx=>by
  simp only[IN,bz,ek]at hx;rcases hx with rfl | rfl | rfl | rfl | rfl
  ·exact vs
  ·exact cL 9 j1.is
  ·exact cL 9 j2.is
  ·exact cL 9 j3.is
  ·exact pJ 8 (tK j4.is sQ)
 have key:∃F',cP E (ev E n) (Φ (η [1,1,0,1,2,2,1,1,0,2,1,0] (aA Tryz.f12).code)) ⟨37,F⟩ Y=some (⟨37,F'⟩,τ2)/\(∀k,k∈[0,3,5,9,10,11]->F'.get k=F.get k)/\F'.get 6=.int .i64 e:=by
  unfold cP;rw[h.Ys,h.Z9];simp only[aA,Tryz.f12,KP,ι,↓reduceIte,δ,ε,ω,μ,ap,h.CK,h.bO,Φ,η,Fz.lits,Fz.apps,iQ,bN,cE,lD,nz,pu,iM,ly,Dz,hZ,gG,gn,gz,g3,g5,hy,hy1,ha1,ha2,hcall,o1,o2,o3,o4,t1,t2,t3,t4,ts,va];refine⟨_,rfl,λk hk=>?_,(by simp+decide only[GS])⟩;simp only[IN,bz,ek]at hk;rcases hk with rfl | rfl | rfl | rfl | rfl | rfl <;> simp+decide only[GS]
 obtain⟨F',hD,h1,h2⟩:=key;refine rl (iW hD) (hk F' τ2 e h1 h2 hE λk o ho=>?_);have h1':=Vg _ _ ho (by intro e;cases e);refine St _ _ h1' λe=>?_;rcases fb _ e with hb | hb
 ·cases hb
 ·exact absurd (AI.mp ho).1 (by omega)
theorem R8(h:bG E){v:V}{l:List aD}(ia:IS nM v l){i:Nat}{x:aD}(hx:l[i]?=some x):∃g a b c d,indexAddr E 22 v (.int .i64 (i:Int))=some (.cR g [.str x.name,a,b,c,d])/\kQ aP a x.ins/\kQ aP b x.outs/\kQ aP c x.after/\kQ gK d x.steps:=by
 obtain⟨g,r,e,a,b,c,d,hr,h1⟩:=IS.at h.CK rfl h.bO rfl ia hx;exact⟨g,a,b,c,d,by rw[e,hr],h1⟩
theorem Ie:oD []:=⟨rfl,λ⟨i,hi,_⟩=>absurd hi (by simp)⟩
theorem X4(h:bG E){a:V}{rs:List aD}(ha:LS dU 46 Z a rs)(hr:∀x∈rs,Raw x):aB E 12 [a] Z λv σ'=>σ'=Z/\∃l,kQ nM v l/\oD l/\l.length<=14/\∀x∈l,Small x:=by
 obtain⟨a',ea,ia⟩:=fI h ha;rw[aH h.hs12 h.PF h.fn12 h.md12 (args':=[a']) (by simp only[aW,ea]),aU (by kernel_rfl)];simp only[aA,Tryz.f12,KP,↓reduceIte,ε,reduceCtorEq];refine aK (K2 h (ia.ls [] 46) hr) ?_;rintro v σ' ⟨rfl,iv⟩
 have sm:∀x∈(rs.take 42).map cut,Small x:=λx hx=>by
  obtain⟨y,-,rfl⟩:=cv.1 hx;exact Om y
 have hl42:((rs.take 42).map cut).length<=42:=by rw[bw,bl];omega
 generalize (rs.take 42).map cut=ls at iv sm hl42;have la:=dH h (tK iv.is xX);simp only[KP,↓reduceIte,ε,la];refine aV (λi F Y=>F.get 9=v/\F.get 10=.int .i64 (ls.length:Int)/\F.get 11=.int .i64 (i:Int)/\∃w l,F.get 3=w/\aY nM 46 Y w l/\oD l/\l.length<=14/\∀x∈l,Small x) ls.length ?_ ?_ ls.length 0 _ _ (by omega) (fK (by simp+decide only[GS,aj]) ⟨.aG,[],(by simp+decide only[GS]),.inl ⟨rfl,rfl⟩,Ie,by simp,λx hx=>by cases hx⟩)
 ·rintro i F Y hi ⟨g9,g10,g11,w,l,g3,ow,hok,hlen,hsm⟩ next
  obtain⟨r,hri⟩:∃y,ls[i]?=some y:=⟨_,AT (by omega)⟩;have hrs:=sm r (ag hri);obtain⟨g,p1,p2,p3,p4,e1,i1,i2,i3,i4⟩:=R8 h iv.is hri;have hlt:=dR hi;have hadd:=bW i (by omega);rw[aF];have o1:=aQ i1.is.bE;have o2:=aQ i2.is.bE;have o3:=aQ i3.is.bE;have o4:=aQ i4.is.bE;simp only[KP,ι,Ξ,↓reduceIte,δ,ε,μ,h.bO,g9,g10,g11,hlt,e1,o1,o2,o3,o4,aL,bP];refine Ua h (ow.app _) (y:=Y.length) ?_ i1 i2 i3 i4 ?_ hlen _ ?_ ?_ ?_
  ·simp
  ·intro x hx;rcases cq.1 hx with hx | hx
   ·exact hsm x hx
   ·rw[cj.1 hx];exact hrs
  ·simp+decide only[GS,g3]
  ·simp+decide only[GS]
  intro F' τ' e hF h6 hE hT;have q3:F'.get 3=w:=(hF 3 (by simp)).trans (show _=w by simp only[FT.bX,δ,↓reduceIte,g3]);have q5:F'.get 5=.ref Y.length 0:=(hF 5 (by simp)).trans (by simp+decide only[GS]);have q9:F'.get 9=v:=(hF 9 (by simp)).trans (by simp+decide only[GS,g9]);have HB:F'.get 10=.int .i64 (ls.length:Int):=(hF 10 (by simp)).trans (by simp+decide only[GS,g10]);have JM:F'.get 11=.int .i64 (i:Int):=(hF 11 (by simp)).trans (by simp+decide only[GS,g11]);have ow':aY nM 46 τ' w l:=(ow.app [ζ 46 [.str r.name,p1,p2,p3,p4] true]).keep λc o _ hc=>hT c o hc;have hy:τ'[Y.length]?=some (ζ 46 [.str r.name,p1,p2,p3,p4] true):=hT _ _ (by simp);have lw:=lV h.CK rfl ow'.ls;have hz:=hE.zero;by_cases he:e=0
  ·have c1:decide (e=0)=true:=BY he;by_cases h14:l.length<14
   ·have c2:decide ((l.length:Int)<14)=true:=BY (by omega);obtain⟨w2,τ2,ha2,ow2,-,-⟩:=Jt (ex:=true) h ow' i1 i2 i3 i4 (by omega);simp only[KP,ι,↓reduceIte,δ,ε,ω,μ,ap,h.CK,h.bO,q3,q5,JM,h6,lw,c1,c2,hy,hadd,ha2,o1,o2,o3,o4,hZ,gG,gz];refine next _ _ (fK (by simp+decide only[GS,q9,HB,aj]) ⟨w2,l++[r],(by simp+decide only[GS]),ow2,hz.1 he,?_,?_⟩)
    ·rw[By,dj];omega
    ·intro x hx;rcases cq.1 hx with hx | hx
     ·exact hsm x hx
     ·rw[cj.1 hx];exact hrs
   ·have c2:decide ((l.length:Int)<14)=false:=AS (by omega);simp only[KP,↓reduceIte,δ,ε,q3,JM,h6,lw,c1,c2,hadd];exact next _ _ (fK (by simp+decide only[GS,q9,HB,aj]) ⟨w,l,(by simp+decide only[GS,q3]),ow',hok,hlen,hsm⟩)
  ·have c1:decide (e=0)=false:=AS he;simp only[KP,↓reduceIte,δ,ε,JM,h6,c1,hadd];exact next _ _ (fK (by simp+decide only[GS,q9,HB,aj]) ⟨w,l,(by simp+decide only[GS,q3]),ow',hok,hlen,hsm⟩)
 ·rintro F Y ⟨g9,g10,g11,w,l,g3,ow,hok,hlen,hsm⟩;obtain⟨v',e1,iv⟩:=pQ h.bO rfl C8 ow;have hlt:=dW (bt ls.length);rw[aF];simp only[KP,↓reduceIte,δ,ε,g3,g10,g11,hlt,e1];exact⟨l,iv,hok,hlen,hsm⟩
theorem sS{k:Nat}{caps:List V}(hc:∀c∈caps,ge c=true)(Z:Sg):aR Z E.ty true (.fn k [] caps)=some (.fn k [] caps):=by
 have e:aW (aR.one Z E.ty true) caps=some caps:=gH λc hx=>by
  have:=bZ (Z:=Z) (ty:=E.ty) (g:=true) (hc c hx) (bJ (hc c hx));have h2:=hc c hx;cases c <;> first | exact this | cases h2
 simp only[aR,e,aW]
theorem UZ(h:bG E){a:V}{l:List bF}{k:Nat}{caps:List V}{P:bF->Bool}(ha:LS aP 9 Z a l)(hsm:l.length<=4294967296)(hc:∀c∈caps,ge c=true)(hP:∀(y:bF)(v:V),y∈l->v=.str y->aB E k ([v]++caps) [] λu Y=>Y=[]/\u=.bool (P y)){fv:V}(ef:aR Z E.ty true fv=some (.fn k [] caps)):aB E 80 [a,fv] Z K=K (.int .i64 (idx (bR P l))) Z:=by
 refine aB.of ?_;obtain⟨a',ea,ia⟩:=kS h ha;rw[aH h.hs80 h.sp80 h.fn80 h.md80 (args':=[a',.fn k [] caps]) (by simp only[aW,ea,ef]),aU (by kernel_rfl)];have la:=bT h ia;simp only[aA,Tryz.f80,KP,↓reduceIte,ε,μ,reduceCtorEq,φ,la];refine aV (λi F Y=>Y=[]/\F.get 0=a'/\F.get 1=.fn k [] caps/\F.get 8=.int .i64 (i:Int)/\F.get 7=.int .i64 (l.length:Int)/\∀j y,j<i->l[j]?=some y->P y=false) l.length ?_ ?_ l.length 0 _ _ (by omega) ⟨rfl,(fZ (by simp+decide only[GS,aj]) (λj y hj=>by omega))⟩
 ·rintro i F Y hi ⟨rfl,g0,g1,g8,g7,hp⟩ next
  obtain⟨x,hx⟩:∃x,l[i]?=some x:=⟨_,AT hi⟩;obtain⟨g,e1⟩:=g_ h ia hx;have hv:V.str x=.str x:=rfl;have hlt:=dR hi;have hadd:=bW i (by omega);rw[aF];simp only[KP,ι,↓reduceIte,δ,ε,reduceCtorEq,φ,h.dJ,g0,g1,g7,g8,hlt,e1];refine aK (hP x _ (ag hx) hv) ?_;rintro u Y ⟨rfl,rfl⟩;by_cases hxs:P x=true
  ·simp only[KP,↓reduceIte,δ,ε,φ,hxs];rw[gC (i:=i) (x:=x) hp hx hxs];exact rfl
  ·have hxs:P x=false:=by simpa using hxs
   simp only[KP,↓reduceIte,δ,ε,φ,g8,hxs,hadd];refine next _ _ ⟨rfl,(fZ (by simp+decide only[GS,g0,g1,g7,aj]) (λj y hj hy=>?_))⟩
   rcases cr j i with g | g
   ·exact hp j y g hy
   ·obtain rfl:j=i:=by omega
    rw[hx]at hy;cases hy;exact hxs
 ·rintro F Y ⟨rfl,g0,g1,g8,g7,hp⟩;have hlt:=dW (bt l.length);rw[aF];simp only[KP,↓reduceIte,ε,φ,g7,g8,hlt]
  rw[gD λx hx=>by
   obtain⟨j,hj,e⟩:=fm hx;exact hp j x hj (by rw[AT hj,e])]
  exact rfl
theorem X0(h:bG E){a:V}{l:List bF}{k:Nat}{caps:List V}{P:bF->Bool}(ha:LS aP 9 Z a l)(hsm:l.length<=4294967296)(hc:∀c∈caps,ge c=true)(hP:∀(y:bF)(v:V),y∈l->v=.str y->aB E k ([v]++caps) [] λu Y=>Y=[]/\u=.bool (P y)):aB E 80 [a,.fn k [] caps] Z K=K (.int .i64 (idx (bR P l))) Z:=UZ h ha hsm hc hP (sS hc Z)
theorem sH(h:bG E){a:V}{l:List bF}{k:Nat}{caps:List V}{P:bF->Bool}(ha:LS aP 9 Z a l)(hsm:l.length<=4294967296)(hc:∀c∈caps,ge c=true)(hP:∀(y:bF)(v:V),y∈l->v=.str y->aB E k ([v]++caps) [] λu Y=>Y=[]/\u=.bool (P y)){fv:V}(ef:aR Z E.ty true fv=some (.fn k [] caps)):aB E 82 [a,fv] Z K=K (.bool (l.any P)) Z:=by
 refine aB.of ?_;obtain⟨a',ea,ia⟩:=kS h ha;rw[aH h.hs82 h.sp82 h.fn82 h.md82 (args':=[a',.fn k [] caps]) (by simp only[aW,ea,ef]),aU (by kernel_rfl)];have key:=λK=>X0 (Z:=[]) (K:=K) h (ia.ls [] 9) hsm hc hP;have kk:=dX key;simp only[aA,Tryz.f82,KP,↓reduceIte,δ,ε,μ,reduceCtorEq,kk,lW,cO];exact rfl
theorem MZ(h:bG E){a:V}{l:List bF}{k:Nat}{caps:List V}{P:bF->Bool}(ha:LS aP 9 Z a l)(hsm:l.length<=4294967296)(hc:∀c∈caps,ge c=true)(hP:∀(y:bF)(v:V),y∈l->v=.str y->aB E k ([v]++caps) [] λu Y=>Y=[]/\u=.bool (P y)):aB E 82 [a,.fn k [] caps] Z K=K (.bool (l.any P)) Z:=sH h ha hsm hc hP (sS hc Z)
theorem MA(h:bG E){a:V}{l:List bF}{k:Nat}{caps:List V}{P:bF->Bool}(ha:LS aP 9 Z a l)(hsm:l.length<=4294967296)(hc:∀c∈caps,ge c=true)(hP:∀(y:bF)(v:V),y∈l->v=.str y->aB E k ([v]++caps) [] λu Y=>Y=[]/\u=.bool (P y)):KC E 82 [a,.fn k [] caps] Z (.bool (l.any P)) Z:=dX λ_=>MZ h ha hsm hc hP
theorem OI(h:bG E){a:V}{l:List am}{k:Nat}{caps:List V}{P:am->Bool}(ha:LS fB 82 Z a l)(hsm:l.length<=4294967296)(hc:∀c∈caps,ge c=true)(hP:∀(y:am)(v:V),y∈l->OQ v y->aB E k ([v]++caps) [] λu Y=>Y=[]/\u=.bool (P y)){fv:V}(ef:aR Z E.ty true fv=some (.fn k [] caps)):aB E 250 [a,fv] Z K=K (.int .i64 (idx (bR P l))) Z:=by
 refine aB.of ?_;obtain⟨a',ea,ia⟩:=CV h ha;rw[aH h.abh h.YK h.acg h.aak (args':=[a',.fn k [] caps]) (by simp only[aW,ea,ef]),aU (by kernel_rfl)];have la:=mE h ia;simp only[aA,Tryz.f250,KP,↓reduceIte,ε,μ,reduceCtorEq,φ,la];refine aV (λi F Y=>Y=[]/\F.get 0=a'/\F.get 1=.fn k [] caps/\F.get 8=.int .i64 (i:Int)/\F.get 7=.int .i64 (l.length:Int)/\∀j y,j<i->l[j]?=some y->P y=false) l.length ?_ ?_ l.length 0 _ _ (by omega) ⟨rfl,(fZ (by simp+decide only[GS,aj]) (λj y hj=>by omega))⟩
 ·rintro i F Y hi ⟨rfl,g0,g1,g8,g7,hp⟩ next
  obtain⟨x,hx⟩:∃x,l[i]?=some x:=⟨_,AT hi⟩;obtain⟨g,p1,p2,e1,i1,i2⟩:=wT h ia hx;have hv:OQ (.agg [.str x.out,.int .i64 x.op,p1,p2,.int .i64 x.n]) x:=⟨p1,p2,rfl,i1,i2⟩;have hlt:=dR hi;have hadd:=bW i (by omega);rw[aF];simp only[KP,ι,↓reduceIte,δ,ε,μ,reduceCtorEq,φ,h.dF,g0,g1,g7,g8,hlt,e1];refine aK (hP x _ (ag hx) hv) ?_;rintro u Y ⟨rfl,rfl⟩;by_cases hxs:P x=true
  ·simp only[KP,↓reduceIte,δ,ε,φ,hxs];rw[gC (i:=i) (x:=x) hp hx hxs];exact rfl
  ·have hxs:P x=false:=by simpa using hxs
   simp only[KP,↓reduceIte,δ,ε,φ,g8,hxs,hadd];refine next _ _ ⟨rfl,(fZ (by simp+decide only[GS,g0,g1,g7,aj]) (λj y hj hy=>?_))⟩
   rcases cr j i with g | g
   ·exact hp j y g hy
   ·obtain rfl:j=i:=by omega
    rw[hx]at hy;cases hy;exact hxs
 ·rintro F Y ⟨rfl,g0,g1,g8,g7,hp⟩;have hlt:=dW (bt l.length);rw[aF];simp only[KP,↓reduceIte,ε,φ,g7,g8,hlt]
  rw[gD λx hx=>by
   obtain⟨j,hj,e⟩:=fm hx;exact hp j x hj (by rw[AT hj,e])]
  exact rfl
theorem RY(h:bG E){a:V}{l:List am}{k:Nat}{caps:List V}{P:am->Bool}(ha:LS fB 82 Z a l)(hsm:l.length<=4294967296)(hc:∀c∈caps,ge c=true)(hP:∀(y:am)(v:V),y∈l->OQ v y->aB E k ([v]++caps) [] λu Y=>Y=[]/\u=.bool (P y)):aB E 250 [a,.fn k [] caps] Z K=K (.int .i64 (idx (bR P l))) Z:=OI h ha hsm hc hP (sS hc Z)
theorem K5(h:bG E){a:V}{l:List am}{k:Nat}{caps:List V}{P:am->Bool}(ha:LS fB 82 Z a l)(hsm:l.length<=4294967296)(hc:∀c∈caps,ge c=true)(hP:∀(y:am)(v:V),y∈l->OQ v y->aB E k ([v]++caps) [] λu Y=>Y=[]/\u=.bool (P y)){fv:V}(ef:aR Z E.ty true fv=some (.fn k [] caps)):aB E 213 [a,fv] Z K=K (.bool (l.any P)) Z:=by
 refine aB.of ?_;obtain⟨a',ea,ia⟩:=CV h ha;rw[aH h.abp h.YR h.aco h.aar (args':=[a',.fn k [] caps]) (by simp only[aW,ea,ef]),aU (by kernel_rfl)];have key:=λK=>RY (Z:=[]) (K:=K) h (ia.ls [] 82) hsm hc hP;have kk:=dX key;simp only[aA,Tryz.f213,KP,↓reduceIte,δ,ε,μ,reduceCtorEq,kk,lW,cO];exact rfl
theorem OJ(h:bG E){a:V}{l:List am}{k:Nat}{caps:List V}{P:am->Bool}(ha:LS fB 82 Z a l)(hsm:l.length<=4294967296)(hc:∀c∈caps,ge c=true)(hP:∀(y:am)(v:V),y∈l->OQ v y->aB E k ([v]++caps) [] λu Y=>Y=[]/\u=.bool (P y)):aB E 213 [a,.fn k [] caps] Z K=K (.bool (l.any P)) Z:=K5 h ha hsm hc hP (sS hc Z)
theorem N9(h:bG E){a:V}{l:List am}{k:Nat}{caps:List V}{P:am->Bool}(ha:LS fB 82 Z a l)(hsm:l.length<=4294967296)(hc:∀c∈caps,ge c=true)(hP:∀(y:am)(v:V),y∈l->OQ v y->aB E k ([v]++caps) [] λu Y=>Y=[]/\u=.bool (P y)):KC E 213 [a,.fn k [] caps] Z (.bool (l.any P)) Z:=dX λ_=>OJ h ha hsm hc hP
theorem ady(h:bG E){a:V}{l:List bF}{s:bF}(ha:LS aP 9 Z a l)(hsm:l.length<=4294967296):aB E 132 [a,.str s] Z K=K (.int .i64 (idx (bR (λx=>decide (x=s)) l))) Z:=by
 refine aB.of ?_;obtain⟨a',ea,ia⟩:=kS h ha;rw[aH h.abN h.Zd h.acL h.aaM (args':=[a',.str s]) (by simp only[aW,ea,dM]),aU (by kernel_rfl)];have la:=bT h ia;simp only[aA,Tryz.f132,KP,↓reduceIte,ε,μ,reduceCtorEq,φ,la];refine aV (λi F Y=>Y=[]/\F.get 0=a'/\F.get 1=.str s/\F.get 8=.int .i64 (i:Int)/\F.get 7=.int .i64 (l.length:Int)/\∀j y,j<i->l[j]?=some y->y≠s) l.length ?_ ?_ l.length 0 _ _ (by omega) ⟨rfl,(fZ (by simp+decide only[GS,aj]) (λj y hj=>by omega))⟩
 ·rintro i F Y hi ⟨rfl,g0,g1,g8,g7,hp⟩ next
  obtain⟨x,hx⟩:∃x,l[i]?=some x:=⟨_,AT hi⟩;obtain⟨g,e1⟩:=g_ h ia hx;have hlt:=dR hi;have hadd:=bW i (by omega);rw[aF];by_cases hxs:x=s
  ·have hs:=iX hxs.symm;simp only[KP,ι,↓reduceIte,δ,ε,reduceCtorEq,φ,h.dJ,g0,g1,g7,g8,hlt,e1,hs];rw[gC (i:=i) (x:=x) (λj y hj hy=>AS (hp j y hj hy)) hx (BY hxs)];exact rfl
  ·have hs:=gW (kg hxs);simp only[KP,ι,↓reduceIte,δ,ε,reduceCtorEq,φ,h.dJ,g0,g1,g7,g8,hlt,e1,hs,hadd];refine next _ _ ⟨rfl,(fZ (by simp+decide only[GS,g0,g1,g7,aj]) (λj y hj hy=>?_))⟩
   rcases cr j i with g | g
   ·exact hp j y g hy
   ·obtain rfl:j=i:=by omega
    rw[hx]at hy;cases hy;exact hxs
 ·rintro F Y ⟨rfl,g0,g1,g8,g7,hp⟩;have hlt:=dW (bt l.length);rw[aF];simp only[KP,↓reduceIte,ε,φ,g7,g8,hlt]
  rw[gD λx hx=>by
   obtain⟨j,hj,e⟩:=fm hx;exact AS (hp j x hj (by rw[AT hj,e]))]
  exact rfl
theorem X8(h:bG E){a:V}{l:List bF}{s:bF}(ha:LS aP 9 Z a l)(hsm:l.length<=4294967296):aB E 99 [a,.str s] Z K=K (.bool (decide (s∈l))) Z:=by
 refine aB.of ?_;obtain⟨a',ea,ia⟩:=kS h ha;rw[aH h.hs99 h.sp99 h.fn99 h.md99 (args':=[a',.str s]) (by simp only[aW,ea,dM]),aU (by kernel_rfl)];have kk:=dX (λK=>ady (Z:=[]) (s:=s) (K:=K) h (ia.ls [] 9) hsm);simp only[aA,Tryz.f99,KP,↓reduceIte,δ,ε,μ,reduceCtorEq,kk,lW,cO,any_eq];exact rfl
theorem DF(h:bG E){a:V}{l:List bF}{s:bF}(ha:LS aP 9 Z a l)(hsm:l.length<=4294967296):KC E 99 [a,.str s] Z (.bool (decide (s∈l))) Z:=dX λ_=>X8 h ha hsm
end
end
end Go.Proofs.YtmbikbgdbbcbmaaGreatDoor
end
